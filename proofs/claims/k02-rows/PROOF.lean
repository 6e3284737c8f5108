import PyProof.Rows.All
import Wide.All
import OpenK.AllK
import Wide.FinOn
import HandS.ForMost
import HandS.TupMul
import PyProof.WalksMore
import PyProof.ListMulRoad
import PyProof.FactsAll.tuple_2
import HandS.Iter
import KE.GoesEnum
import HandS.Wide
import HandS.IsInst
import HandS.Walk
import HandS.Zip
import HandS.Conv
import HandS.TupLe
import HandS.TupAny
import HandS.Flow
import HandS.ExcOwn
import HandS.CallSlots
import HandS.WordsExc
import PySem.Challenge.RW_shelfmill_k02_rows
set_option Elab.async false
set_option linter.all false
set_option maxRecDepth 100000
set_option maxHeartbeats 4000000
/-! PyD, part 0: rules that the layer lacks: sum, max, min of a tuple of ints; tuple * int for any count. -/
namespace Pd
open PySem PySem.Spec PyProof.Rows

section
variable {prog : Program} {w : World} {A : Around} {E : Value → Shared → Prop} {s : Shared} {l : Addr} {its : List Value} {ns : List Int} {Q : Value → Shared → Prop}
theorem iter_tup {items : Array Value} {Q : Value → Shared → Prop} (hl : s.heap.IsTuple l items)
    (h : ∀ s₂ : Shared, s₂ = { s with heap := s.heap.push { cls := .type "tuple_iterator", data := .fields #[.ref l, .int 0 0] } } →
      (s₂.heap.IsTupleIter s.heap.objs.size l 0 ∧ s₂.heap.IsTuple l items) → (∀ b ∈ [s.heap.objs.size, l], b < s₂.heap.objs.size) → l ≠ s.heap.objs.size → Q (.ref s.heap.objs.size) s₂) :
    wpAny (model prog w) A (pyIter (.ref l)) Q E s := by
  have hlt : l < s.heap.objs.size := by obtain ⟨_, e, _⟩ := hl; exact Heap.lt_size e
  refine wpAny_pyIter_tuple hl (h _ rfl ⟨⟨_, Heap.get?_push_size _ rfl, rfl, rfl⟩, hl.push _⟩ (fun b hb => ?_) (Nat.ne_of_lt hlt))
  show b < (s.heap.push _).objs.size
  rw [Heap.size_push]
  rcases List.mem_cons.mp hb with rfl | hb
  · exact Nat.lt_succ_self _
  · rcases List.mem_cons.mp hb with rfl | hb
    · exact Nat.lt_succ_of_lt hlt
    · cases hb
theorem old_keptT {h' : Heap} (hk : ∀ b o, b ∉ [s.heap.objs.size] → (s.heap.push { cls := .type "tuple_iterator", data := .fields #[.ref l, .int 0 0] }).get? b = some o → h'.get? b = some o) :
    ∀ b o, s.heap.get? b = some o → h'.get? b = some o := fun b o e => by
  refine hk b o (fun hm => ?_) (Heap.get?_push_of_some _ e)
  rcases List.mem_cons.mp hm with e1 | hm
  · exact absurd (e1 ▸ Heap.lt_size e) (Nat.lt_irrefl _)
  · cases hm
theorem sumT_raw (hh : A.handled = none) (hl : s.heap.IsTuple l its.toArray) (hi : IntsAre its ns)
    (h : ∀ h' tk t', (∀ b o, s.heap.get? b = some o → h'.get? b = some o) → Q (.int ns.sum t') { s with heap := h', toks := tk }) : wpAny (model prog w) A (call (.builtin "sum") [.ref l]) Q E s := by
  obtain ⟨xs, e⟩ := hi.allInts.items
  have hn : numsOf (intItems xs).toList = ns := by rw [← e]; exact hi.numsOf
  rw [nums_intItems] at hn
  rw [e] at hl
  refine call_sum_walkG (iter_tup hl fun s₂ e st hfp hlI => ?_)
  subst e
  refine ⟨_, _, _, _, _, _, numAt xs, rfl, Walks.tuple (A := A.in1) hh _ l hlI (intItems xs), st, hfp, (fun _ _ => intItems_at), fun h' tk t' hk => ?_⟩
  have := h h' tk t' (old_keptT hk)
  have e2 : (intItems xs).size = xs.size := by simp [intItems]
  rw [e2, preSum_eq, List.take_of_length_le (by simp), hn]; exact this
theorem maxT_raw (hh : A.handled = none) (hl : s.heap.IsTuple l its.toArray) (hi : IntsAre its ns) (hne : 0 < ns.length)
    (h : ∀ h' tk M t', (∀ b o, s.heap.get? b = some o → h'.get? b = some o) → M ∈ ns → (∀ a, a ∈ ns → a ≤ M) → Q (.int M t') { s with heap := h', toks := tk }) : wpAny (model prog w) A (call (.builtin "max") [.ref l]) Q E s := by
  obtain ⟨xs, e⟩ := hi.allInts.items
  have hn : numsOf (intItems xs).toList = ns := by rw [← e]; exact hi.numsOf
  rw [nums_intItems] at hn
  subst hn
  rw [e] at hl
  have hsz : 0 < xs.size := by simpa using hne
  refine call_max_walk (iter_tup hl fun s₂ e st hfp hlI => ?_)
  subst e
  refine ⟨_, _, _, _, _, _, _, rfl, Walks.tuple (A := A.in1) hh _ l hlI (intItems xs), st, hfp, by simpa [intItems] using hsz, CmpOf.ints_gt (numAt xs) (fun _ _ => intItems_at), fun v h' tk hP hk => ?_⟩
  have hv : (intItems xs)[argBest (fun i j => decide (numAt xs i > numAt xs j)) (xs.size - 1)]? = some v := by simpa [intItems] using hP
  obtain ⟨t, rfl⟩ := intItems_at hv
  obtain ⟨h1, h2⟩ := argBest_gt (numAt xs) (xs.size - 1)
  refine h h' tk _ t (old_keptT hk) ?_ fun a ha => ?_
  · rw [numAt_eq]; exact PySem.getD_mem (by rw [List.length_map, Array.length_toList]; omega)
  · obtain ⟨j, hj, rfl⟩ := mem_getD ha
    rw [List.length_map, Array.length_toList] at hj
    rw [← numAt_eq]; exact h2 j (by omega)
theorem minT_raw (hh : A.handled = none) (hl : s.heap.IsTuple l its.toArray) (hi : IntsAre its ns) (hne : 0 < ns.length)
    (h : ∀ h' tk M t', (∀ b o, s.heap.get? b = some o → h'.get? b = some o) → M ∈ ns → (∀ a, a ∈ ns → M ≤ a) → Q (.int M t') { s with heap := h', toks := tk }) : wpAny (model prog w) A (call (.builtin "min") [.ref l]) Q E s := by
  obtain ⟨xs, e⟩ := hi.allInts.items
  have hn : numsOf (intItems xs).toList = ns := by rw [← e]; exact hi.numsOf
  rw [nums_intItems] at hn
  subst hn
  rw [e] at hl
  have hsz : 0 < xs.size := by simpa using hne
  refine call_min_walk (iter_tup hl fun s₂ e st hfp hlI => ?_)
  subst e
  refine ⟨_, _, _, _, _, _, _, rfl, Walks.tuple (A := A.in1) hh _ l hlI (intItems xs), st, hfp, by simpa [intItems] using hsz, CmpOf.ints_lt (numAt xs) (fun _ _ => intItems_at), fun v h' tk hP hk => ?_⟩
  have hv : (intItems xs)[argBest (fun i j => decide (numAt xs i < numAt xs j)) (xs.size - 1)]? = some v := by simpa [intItems] using hP
  obtain ⟨t, rfl⟩ := intItems_at hv
  obtain ⟨h1, h2⟩ := argBest_lt (numAt xs) (xs.size - 1)
  refine h h' tk _ t (old_keptT hk) ?_ fun a ha => ?_
  · rw [numAt_eq]; exact PySem.getD_mem (by rw [List.length_map, Array.length_toList]; omega)
  · obtain ⟨j, hj, rfl⟩ := mem_getD ha
    rw [List.length_map, Array.length_toList] at hj
    rw [← numAt_eq]; exact h2 j (by omega)
end
open L2
section
variable {X : Cx}
def rSumT (K : PySem.W.Frag) : List V → Hp → VK → Prop := fun vs H Q => ∃ (a : Addr) (ns : List Int), vs = [V.ref a] ∧ SqT K H a (ns.map V.int) ∧ Q (.int ns.sum) H
def rMaxT (K : PySem.W.Frag) : List V → Hp → VK → Prop := fun vs H Q => ∃ (a : Addr) (ns : List Int), vs = [V.ref a] ∧ SqT K H a (ns.map V.int) ∧ 0 < ns.length ∧ ∀ m, m ∈ ns → (∀ y, y ∈ ns → y ≤ m) → Q (.int m) H
def rMinT (K : PySem.W.Frag) : List V → Hp → VK → Prop := fun vs H Q => ∃ (a : Addr) (ns : List Int), vs = [V.ref a] ∧ SqT K H a (ns.map V.int) ∧ 0 < ns.length ∧ ∀ m, m ∈ ns → (∀ y, y ∈ ns → m ≤ y) → Q (.int m) H
theorem cr_sumT (hc : X.calm = true) : CallR X (.builtin "sum") (rSumT X.K) := by
  intro pins s σ H vs us Q I r h
  obtain ⟨a, ns, rfl, hs, q⟩ := h
  obtain ⟨its, rv, hl, _⟩ := I.tuple hs
  rw [Vals.ref1 r]
  exact sumT_raw (I.ok.hd hc) hl rv.ints fun h' tk t' hk => ⟨.int _, H, I.kept hk, ⟨_, rfl⟩, q⟩
theorem cr_maxT (hc : X.calm = true) : CallR X (.builtin "max") (rMaxT X.K) := by
  intro pins s σ H vs us Q I r h
  obtain ⟨a, ns, rfl, hs, hne, q⟩ := h
  obtain ⟨its, rv, hl, _⟩ := I.tuple hs
  rw [Vals.ref1 r]
  exact maxT_raw (I.ok.hd hc) hl rv.ints hne fun h' tk m t' hk h1 h2 => ⟨.int _, H, I.kept hk, ⟨_, rfl⟩, q m h1 h2⟩
theorem cr_minT (hc : X.calm = true) : CallR X (.builtin "min") (rMinT X.K) := by
  intro pins s σ H vs us Q I r h
  obtain ⟨a, ns, rfl, hs, hne, q⟩ := h
  obtain ⟨its, rv, hl, _⟩ := I.tuple hs
  rw [Vals.ref1 r]
  exact minT_raw (I.ok.hd hc) hl rv.ints hne fun h' tk m t' hk h1 h2 => ⟨.int _, H, I.kept hk, ⟨_, rfl⟩, q m h1 h2⟩
end
end Pd

set_option Elab.async false
set_option linter.all false
set_option maxRecDepth 100000
set_option maxHeartbeats 4000000
namespace Pd
open PySem PySem.Spec PyProof.Rows L2
theorem tuple_mul_same (l : Addr) (items : Array Value) (n : Nat) (dd : Option Addr) (sl : Array (Option Value)) (x : Int) (u : Tok) (c0 : (decide (x < -(2 ^ 63)) || decide (x ≥ 2 ^ 63)) = false) (c1 : (items.isEmpty || x == 1) = true) :
    Meets (Builtin.«tuple.__mul__» ⟨[.ref l, .int x u], []⟩) (fun _ R s => s.heap.get? l = some { cls := .type "tuple", dict := dd, data := .seq items n, slots := sl } ∧
      R (.ok (.ret (Value.ref l))) s) :=
  .of_wp fun prog w A R s h => by
    obtain ⟨hp, g, d, tk, os⟩ := s
    obtain ⟨hl, h⟩ := h
    have f1 := AutoSeq1.idx_int
    wp_walk using wpAny_loadPart' hl
    repeat (first
      | (refine wpAny_ite_false (decide_eq_false (by rw [c0]; exact Bool.false_ne_true)) ?_; wp_walk using wpAny_loadPart' hl)
      | (refine wpAny_ite_true (decide_eq_true c1) ?_; wp_walk using wpAny_loadPart' hl))
    all_goals first | exact ⟨_, rfl, h⟩ | skip
theorem tuple_mul_zero (l : Addr) (items : Array Value) (n : Nat) (dd : Option Addr) (sl : Array (Option Value)) (x : Int) (u : Tok) (c0 : (decide (x < -(2 ^ 63)) || decide (x ≥ 2 ^ 63)) = false) (c1 : (items.isEmpty || x == 1) = false) (c2 : (decide (x ≤ 0) || items.isEmpty) = true) :
    Meets (Builtin.«tuple.__mul__» ⟨[.ref l, .int x u], []⟩) (fun _ R s => s.heap.get? l = some { cls := .type "tuple", dict := dd, data := .seq items n, slots := sl } ∧
      R (.ok (.ret (Value.ref s.heap.objs.size))) { s with heap := s.heap.push { cls := Value.type "tuple", data := Data.seq #[] }, toks := s.toks }) :=
  .of_wp fun prog w A R s h => by
    obtain ⟨hp, g, d, tk, os⟩ := s
    obtain ⟨hl, h⟩ := h
    have f1 := AutoSeq1.idx_int
    wp_walk using wpAny_loadPart' hl
    repeat (first
      | (refine wpAny_ite_false (decide_eq_false (by rw [c0]; exact Bool.false_ne_true)) ?_; wp_walk using wpAny_loadPart' hl)
      | (refine wpAny_ite_false (decide_eq_false (by rw [c1]; exact Bool.false_ne_true)) ?_; wp_walk using wpAny_loadPart' hl)
      | (refine wpAny_ite_true (decide_eq_true c2) ?_; wp_walk using wpAny_loadPart' hl))
    all_goals first | exact ⟨_, rfl, h⟩ | skip
def rRepA (K : PySem.W.Frag) : R2 := fun x y H Q => ∃ l k xs, x = .ref l ∧ y = .int k ∧ SqT K H l xs ∧ 0 ≤ k ∧ k ≤ 1000 ∧ xs.length ≤ 1000 ∧ ((xs = [] ∨ k = 1) → Q (.ref l) H) ∧
  (xs ≠ [] → k ≠ 1 → ∀ p, H p = none → Q (.ref p) (upd H p (.tup (List.replicate k.toNat xs).flatten)))
section
variable {X : Cx}
theorem op_repA : OpR X (binaryOp .Mult) (rRepA X.K) := by
  intro pins s σ H x y v u Q I rx ry h
  obtain ⟨l, k, xs, rfl, rfl, hT, h1, h2, hz, q1, q2⟩ := h
  by_cases hbig : xs ≠ [] ∧ 2 ≤ k
  · exact op_repT pins s σ H _ _ v u Q I rx ry ⟨l, k, xs, rfl, rfl, hT, hbig.1, hbig.2, h2, hz, q2 hbig.1 (by omega)⟩
  cases rx
  obtain ⟨t, rfl⟩ := ry
  obtain ⟨its, r, ⟨⟨cls, dd, data, sl⟩, ho, hc, n, hd⟩, hs⟩ := I.tuple hT
  simp only at hc hd
  subst hc hd
  have hle : its.length = xs.length := r.length.symm
  have c0 : (decide (k < -(2 ^ 63)) || decide (k ≥ 2 ^ 63)) = false := by
    rw [decide_eq_false (by omega), decide_eq_false (by omega)] <;> rfl
  have road : ∀ {Q' : Value → Shared → Prop}, wpAny (model X.prog X.w) X.A (call (.builtin "tuple.__mul__") [.ref l, .int k t]) Q' X.xe s → wpAny (model X.prog X.w) X.A (binaryOp .Mult (.ref l) (.int k t)) Q' X.xe s := fun {Q'} hh =>
    wpAny_binaryOp_repeat_ref (T := "tuple") (U := "int") (by decide) ⟨_, ho, rfl⟩ (fun s' => typeIs_int s' k t) noFill_tuple_mul F.fills_int_mul F.slot_int_rmul repeat_tuple F.slot_int_index.lookup
      (call_meets F.slot_int_rmul (typeIs_int s k t) F.entry_int_rmul (F.args_int_rmul_2 _ _) (int_rmul_tuple k t l its.toArray n dd sl) ⟨ho, rfl, ⟨_, ho, rfl⟩, hh⟩)
  by_cases hsame : xs = [] ∨ k = 1
  · have c1 : (its.toArray.isEmpty || k == 1) = true := by
      rcases hsame with e | e
      · have : its = [] := List.eq_nil_of_length_eq_zero (by rw [hle, e]; rfl)
        rw [this]; rfl
      · rw [e]; simp
    exact road (call_meets F.slot_tuple_mul ⟨_, ho, rfl⟩ F.entry_tuple_mul (F.args_tuple_mul_2 _ _) (tuple_mul_same l its.toArray n dd sl k t c0 c1) ⟨ho, ⟨.ref l, H, I, rfl, q1 hsame⟩⟩)
  · have hne : xs ≠ [] := fun e => hsame (.inl e)
    have hk1 : k ≠ 1 := fun e => hsame (.inr e)
    have hk0 : k = 0 := by
      have : ¬ 2 ≤ k := fun z => hbig ⟨hne, z⟩
      omega
    subst hk0
    have hn : its ≠ [] := fun e => hne (by
      rw [e] at hle
      exact List.eq_nil_of_length_eq_zero hle.symm)
    have hi : its.toArray.isEmpty = false := by
      cases its with
      | nil => exact absurd rfl hn
      | cons a b => rfl
    have c1 : (its.toArray.isEmpty || (0 : Int) == 1) = false := by rw [hi]; rfl
    have c2 : (decide ((0 : Int) ≤ 0) || its.toArray.isEmpty) = true := by rw [hi]; rfl
    refine road (call_meets F.slot_tuple_mul ⟨_, ho, rfl⟩ F.entry_tuple_mul (F.args_tuple_mul_2 _ _) (tuple_mul_zero l its.toArray n dd sl 0 t c0 c1 c2) ⟨ho, ?_⟩)
    refine ⟨.ref s.heap.objs.size, _, I.laid (t' := s.toks) (o := .tup (List.replicate (0 : Int).toNat xs).flatten) (fun b ob q => Heap.get?_push_of_some _ q) (Nat.le_refl _) ?_, rfl, q2 hne hk1 _ (I.hok.fresh (Nat.le_refl _))⟩
    exact ⟨Nat.zero_le _, [], .nil, IsTup.new _ _⟩
end
end Pd

set_option Elab.async false
set_option linter.all false
set_option maxRecDepth 100000
/-! PyD, part 0c: enumerate of a tuple, which the layer lacks. -/
namespace Pd
open PySem PySem.Spec PyProof.Rows L2
set_option maxHeartbeats 1000000 in
theorem enum_made {v : Value} {ob : Obj} {I : Heap → Prop} (bg : Begins v ob I) :
    Meets (Builtin.«enumerate.__new__» ⟨[.type "enumerate", v], []⟩) (fun _ R z => I z.heap ∧
      R (.ok (.ret (.ref (z.heap.push ob).objs.size))) { z with heap := (z.heap.push ob).push { cls := .type "enumerate", data := .fields #[.none, .bool false, .ref z.heap.objs.size, rawInt 0, .none, .none] } }) :=
  .of_wp fun pr wo ar R z hz => by
    obtain ⟨hp, ge, di, tok, out⟩ := z
    obtain ⟨hi, hz⟩ := hz
    have hs := sub_enumerate
    have it : ∀ {A' : Around} {E' : Value → Shared → Prop} {Q' : Value → Shared → Prop}, Q' (.ref hp.objs.size) ⟨hp.push ob, ge, di, tok, out⟩ → wpAny (model pr wo) A' (pyIter v) Q' E' ⟨hp, ge, di, tok, out⟩ :=
      fun qq => bg.iter pr wo _ _ ⟨hp, ge, di, tok, out⟩ _ hi qq
    wp_walk using it
    refine wpAny_stack_any fun st => wpAny_pure ?_
    split
    · rename_i cl _ _ _ _ _
      cases (cl == Value.type "enumerate")
      · wp_walk using it
        exact ⟨_, rfl, hz⟩
      · wp_walk using it
        exact ⟨_, rfl, hz⟩
    · wp_walk using it
      exact ⟨_, rfl, hz⟩
theorem enum_one {pr : Program} {wo : World} {ar : Around} {E : Value → Shared → Prop} {z : Shared} {v : Value} {ob : Obj} {I : Heap → Prop} {Q : Value → Shared → Prop} (bg : Begins v ob I) (hi : I z.heap)
    (k : ∀ h2, IsEnum h2 (z.heap.objs.size + 1) z.heap.objs.size 0 .none → h2.get? z.heap.objs.size = some ob → (∀ c u, z.heap.get? c = some u → h2.get? c = some u) → Q (.ref (z.heap.objs.size + 1)) { z with heap := h2 }) :
    wpAny (model pr wo) ar (call (.type "enumerate") [v]) Q E z := by
  have hz : (z.heap.push ob).objs.size = z.heap.objs.size + 1 := Heap.size_push ..
  refine callType_new F.called_enumerate (by decide) (F.typeCall_enumerate_1 _) (F.newCall_enumerate_1 _) (fun o2 => F.args_object_init_2 o2 _) F.entry_enumerate_new (enum_made bg) ⟨hi, ?_⟩
  show _ ∧ _
  rw [hz]
  have made := Heap.get?_push_size (z.heap.push ob) (o := { cls := .type "enumerate", data := .fields #[.none, .bool false, .ref z.heap.objs.size, rawInt 0, .none, .none] }) rfl
  rw [hz] at made
  exact ⟨⟨_, made, rfl⟩, k _ made (Heap.get?_push_of_some _ (Heap.get?_push_size _ bg.free)) fun c u x => Heap.get?_push_of_some _ (Heap.get?_push_of_some _ x)⟩
/-- the tuple at a at each turn, each item in a new pair -/
def IteT (K : PySem.W.Frag) (a : Addr) : It where
  go i H := ∃ ws y, SqT K H a ws ∧ ws[i]? = some y
  yld i H v H' := ∃ c y, v = .ref c ∧ H c = none ∧ H' = upd H c (.tup [.int (i : Nat), y]) ∧ ∀ ws, SqT K H a ws → ws[i]? = some y
  stop i H := ∃ ws, SqT K H a ws ∧ ws.length = i
theorem turn_enumT {P : Program} {w : World} {K : PySem.W.Frag} {el : List Expr} {n1 : Nat} {tp : Pos} (a en it : Addr) (n1' : en ≠ it) (n2 : a ≠ it) (n3 : en ≠ a) :
    Turn P w K (.Tuple el n1 tp) (IteT K a) [en, it] en (fun i h => (∃ last, IsEnum h en it ((i : Nat) : Int) last) ∧ h.IsTupleIter it a i) where
  mem := by simp
  obj := fun i h st b hb => by
    obtain ⟨⟨last, h1⟩, o, ho, hc, hd⟩ := st
    rcases List.mem_cons.mp hb with z | z
    · subst z
      exact ⟨_, h1, fun v q => nomatch q⟩
    · rw [List.mem_singleton] at z
      subst z
      exact ⟨o, ho, fun v q => by rw [hd] at q; cases q⟩
  keep := fun i h h' st k => by
    obtain ⟨⟨last, h1⟩, h2⟩ := st
    exact ⟨⟨last, k en (by simp) _ h1⟩, h2.at fun o q => k it (by simp) o q⟩
  item := by
    intro X hP hw hK hc i pins s σ H E I hf st hg
    subst hP hw hK
    obtain ⟨⟨last, h1⟩, h2⟩ := st
    obtain ⟨ws, y, hq, hx⟩ := hg
    obtain ⟨its, rv, p, hz⟩ := I.tuple hq
    obtain ⟨u, hu, ru⟩ := rv.get hx
    have hel : en < s.heap.objs.size := Heap.lt_size h1
    have hil : it < s.heap.objs.size := by obtain ⟨_, q, _⟩ := h2; exact Heap.lt_size q
    have hlt : i < its.toArray.size := by
      obtain ⟨z, _⟩ := List.getElem?_eq_some_iff.mp hu
      simpa using z
    refine wpAny_pyNext_enum_itemD (Draws.tuple (A := X.A.in1) (I.ok.hd hc) it a n2 its.toArray) h1 ⟨h2, p⟩ hlt n1' (by simp [n1', n3]) fun x h' tk px ho st' hT hsz hk => ?_
    have ex : x = u := by
      have e1 : its[i]? = some x := by simpa using px
      rw [hu] at e1; exact (Option.some.inj e1).symm
    subst ex
    refine ⟨_, rfl, wpAny_letOwnedTupleGo_enum (s := { s with heap := h', toks := tk + 1 }) ho fun h'' he' sb => ?_⟩
    have hT2 := (sb.2 s.heap.objs.size (Nat.ne_of_gt hel)).trans hT
    have nw : ObjOk X.prog X.w (upd H s.heap.objs.size (.tup [.int (i : Nat), y])) h'' s.heap.objs.size (.tup [.int (i : Nat), y]) :=
      ⟨by show 2 ≤ sizeLine; decide, [.int i tk, x], .cons ⟨_, rfl⟩ (.cons ru .nil), ⟨_, hT2, rfl, _, rfl⟩⟩
    have I1 : Inv X pins σ (upd H s.heap.objs.size (.tup [.int (i : Nat), y])) { s with heap := h'', toks := tk + 1 } :=
      I.turnedNew (ch := [en, it]) (fun b ob hb q => (sb.2 b fun z => hb (z ▸ List.mem_cons_self)).trans (hk b ob (fun z => hb (z ▸ List.mem_cons_self)) (fun z => hb (by rw [z]; simp)) q)) hf (Nat.le_refl _) nw
    refine ⟨.ref s.heap.objs.size, _, I1, rfl, ⟨_, y, rfl, I.hok.fresh (Nat.le_refl _), rfl, fun vs hv => I.tuple_inj hq hv ▸ hx⟩, ⟨⟨x, ?_⟩, st'.1.at fun o q => (sb.2 it (Ne.symm n1')).trans q⟩, fun b hb => ?_⟩
    · rw [show ((i + 1 : Nat) : Int) = (i : Int) + 1 by omega]
      exact he'
    · have lt : b < s.heap.objs.size := by
        rcases List.mem_cons.mp hb with z | z
        · rw [z]; exact hel
        · rw [List.mem_singleton.mp z]; exact hil
      rw [upd_ne (Nat.ne_of_lt lt)]
      exact (hf b hb).1
  done := by
    intro X hP hw hK hc i pins s σ H E I hf st hg
    subst hP hw hK
    obtain ⟨⟨last, h1⟩, h2⟩ := st
    obtain ⟨ws, hq, hx⟩ := hg
    obtain ⟨its, rv, p, hz⟩ := I.tuple hq
    have hl := rv.length
    have hi : i = its.toArray.size := by rw [List.size_toArray]; omega
    obtain ⟨f0, f1, f2, f3, f4, f5⟩ := hf it (by simp)
    exact wpAny_pyNext_enum_endD (Draws.tuple (A := X.A.in1) (I.ok.hd hc) it a n2 its.toArray) h1 (hi ▸ ⟨h2, p⟩) fun h' eb => ⟨rfl, I.turned (t' := s.toks) (fun b o hb q => eb b o hb q) f0 f1 f3 f4 f5⟩
  self := fun A i s Q E st h => let ⟨⟨_, he⟩, _⟩ := st; wpAny_pyIter_enum he h
/-- enumerate of a list or a tuple -/
def iEnumA (K : PySem.W.Frag) (ta : TA) : TI := fun σ H R => ta σ H fun vs H1 => ∃ a ws, vs = [.ref a] ∧ ((SqL K H1 a ws ∧ R (Ite K a) H1) ∨ (SqT K H1 a ws ∧ R (IteT K a) H1))
theorem pi_enumA {X : Cx} {e : Expr} {ta : TA} {p pos tpos : Pos} {el : List Expr} {kk : Nat} (hg : Gl X "enumerate") (hm : X.mg "enumerate" = none) (ha : PA X [e] ta) (hs : starEach [e] X.env = [(false, eval e X.env)]) :
    PI X (.Tuple el kk tpos) (.Call (.Name "enumerate" p) [e] [] pos) (iEnumA X.K ta) := by
  refine ⟨fun pins s σ H R I h => ?_⟩
  refine Call_ (ld_blt I hg hm boot_enumerate (PyProof.Rows.callWith_type1 (thn (ha.run pos pins s σ H _ I h) fun us s1 ⟨vs, H1, I1, r1, q1⟩ => ?_) hs rfl))
  obtain ⟨a, ws, rfl, q⟩ := q1
  obtain ⟨uu, rfl, ru⟩ := r1.one
  cases ru
  have fp : ∀ b ∈ [s1.heap.objs.size + 1, s1.heap.objs.size], FpOk X pins H1 b := fun b hb => by
    have le : s1.heap.objs.size ≤ b := by
      rcases List.mem_cons.mp hb with z | z
      · omega
      · rw [List.mem_singleton.mp z]; omega
    exact I1.fpOk le (I1.hok.fresh le)
  rcases q with ⟨hq, q⟩ | ⟨hq, q⟩
  · obtain ⟨its, rv, p', hz⟩ := I1.list hq
    refine call_enumerate_list p'.isList fun h' he hit hsz hk => wpAny_pyIter_enum he ?_
    exact ⟨_, _, _, _, H1, rfl, I1.kept (t' := s1.toks) hk, turn_enum a (s1.heap.objs.size + 1) s1.heap.objs.size, ⟨⟨.none, he⟩, hit, Nat.succ_ne_self _⟩, fp, q⟩
  · obtain ⟨its, rv, p', hz⟩ := I1.tuple hq
    have la : a < s1.heap.objs.size := by obtain ⟨_, q, _⟩ := p'; exact Heap.lt_size q
    refine enum_one (begins_tuple a its.toArray) p' fun h' he hit hk => wpAny_pyIter_enum he ?_
    exact ⟨_, _, _, _, H1, rfl, I1.kept (t' := s1.toks) hk, turn_enumT a (s1.heap.objs.size + 1) s1.heap.objs.size (Nat.succ_ne_self _) (Nat.ne_of_lt la) (Nat.ne_of_gt (Nat.lt_succ_of_lt la)), ⟨⟨.none, he⟩, ⟨_, hit, rfl, rfl⟩⟩, fp, q⟩
end Pd

set_option Elab.async false
set_option linter.all false
set_option maxRecDepth 100000
/-! PyD, part 1: data trees, an IR of Python bodies, its weakest preconditions over data. -/
namespace Pd
open PySem PySem.Spec L2

/-- immutable data -/
inductive D where
  | non | bl (b : Bool) | int (i : Int) | str (x : Str)
  | tup (xs : List D) | lst (xs : List D)
  /-- the law's own argument: a list that is read, never held anew -/
  | scr (xs : List D)
  | ins (c : Str) (ks : List Str) (ds : List D)

/-- what a name of a frame holds: nothing, a value, or a list that it alone holds -/
inductive Sl where
  | un | val (d : D) | own (ds : List D)
abbrev Env := List Sl
def getS : Env → Nat → Sl
  | [], _ => .un
  | s :: _, 0 => s
  | _ :: r, n + 1 => getS r n
def setS : Env → Nat → Sl → Env
  | [], _, _ => []
  | _ :: r, 0, v => v :: r
  | s :: r, n + 1, v => s :: setS r n v
def setsS : Env → List Nat → List D → Env
  | env, i :: is, d :: ds => setsS (setS env i (.val d)) is ds
  | env, _, _ => env
def wipeS : Env → List Nat → Env
  | env, [] => env
  | env, i :: is => setS (wipeS env is) i .un
/-- env with the slots is as they stand in old -/
def restS : Env → Env → List Nat → Env
  | env, _, [] => env
  | env, old, i :: is => setS (restS env old is) i (getS old i)
def noOwn : Env → List Nat → Prop
  | _, [] => True
  | env, i :: is => (match getS env i with | .own _ => False | _ => True) ∧ noOwn env is

/-- an exception of an own class: the class, its fields -/
structure Exn where
  c : Str
  ks : List Str
  ds : List D
/-- what a def gives: a value, or a new list that only the caller holds -/
inductive Rv where
  | v (d : D) | fr (ds : List D)
def Rv.d : Rv → D
  | .v d => d
  | .fr ds => .lst ds
abbrev DSp := List Sl → (Rv → List Sl → Prop) → (Exn → List Sl → Prop) → Prop
/-- the defs that a body calls: name, number of parameters, promise -/
abbrev Gam := List (Str × Nat × DSp)
def gam : Gam → Nat → DSp
  | [], _ => fun _ _ _ => False
  | s :: _, 0 => s.2.2
  | _ :: r, n + 1 => gam r n

inductive Tp where
  | int | bool | str | tuple | list | cls (c : Str)
/-- primitive operations -/
inductive Pr where
  | add | sub | mul | fdiv | mod | pow | shl | neg
  | eq | ne | lt | le | gt | ge | isN | notN | in_ | notin
  | len | abs | int | bool | max2 | min2 | sum | all | any | max1 | min1 | sorted
  | tupOf | lstOf | isi (t : Tp) | ix | slc (lo hi : Bool) | tupD | lstD

inductive Tg where
  | nm (i : Nat) | tp (is : List Nat)

mutual
inductive Ex where
  | var (i : Nat) | int (n : Int) | bl (b : Bool) | non | str (x : Str)
  | conI (x : Str) (n : Int) | conT (x : Str) (ns : List Int)
  | pr (p : Pr) (as : As)
  | call (f : Nat) (as : As)
  | ife (t : Ts) (a b : Ex)
  | ands (l : As) | ors (l : As) | not_ (a : Ex)
  | chain (p q : Pr) (a b c : Ex)
  | comp (vs : List Nat) (tg : Tg) (it : It) (ts : Tss) (e : Ex)
  | popAt (i : Nat) (k : Ex) | pop (i : Nat)
  | slc2 (x l h : Ex)
  | rg1 (t : Bool) (a : Ex) | rg2 (t : Bool) (a b : Ex)
inductive As where
  | nil | e (a : Ex) (r : As) | pk (i : Nat) (r : As)
inductive Ts where
  | e (a : Ex) | cmp (p : Pr) (as : As) | ands (l : Tss) | ors (l : Tss) | not_ (t : Ts) | chain (p q : Pr) (a b c : Ex)
inductive Tss where
  | nil | cons (t : Ts) (r : Tss)
inductive It where
  | seq (a : Ex) | rng1 (a : Ex) | rng2 (a b : Ex) | zip (a b : Ex) | enum (a : Ex) | prE (p : Pr) (as : As)
end
mutual
inductive Sm where
  | asg (t : Tg) (e : Ex) | asgO (i : Nat) (e : Ex) | par (i j : Nat) (a b : Ex) | aug (i : Nat) (p : Pr) (e : Ex)
  | asgC (i : Nat) (f : Nat) (as : As) | ret (e : Ex) | retO (e : Ex) | retN | pass | brk | cont
  | ife (t : Ts) (a b : Sms)
  | for_ (t : Tg) (it : It) (b : Sms) | while_ (t : Ts) (b : Sms)
  | expr (e : Ex)
  | app (i : Nat) (e : Ex) | setix (i : Nat) (k : Ex) (e : Ex) | augix (i : Nat) (k : Ex) (p : Pr) (e : Ex)
inductive Sms where
  | nil | cons (s : Sm) (r : Sms)
end

/-! ### primitives -/
abbrev LINE : Nat := sizeLine
def MulOk (i j : Int) : Prop := CMul i j ∨ CMulW i j
def DivOk (j : Int) : Prop := 0 < j ∧ j.natAbs.log2 < 9000

def pAdd : List D → (D → Prop) → Prop
  | [.int a, .int b], Q => Q (.int (a + b))
  | [.int a, .bl b], Q => Q (.int (a + if b then 1 else 0))
  | [.tup a, .tup b], Q => a.length + b.length ≤ LINE ∧ Q (.tup (a ++ b))
  | [.lst a, .lst b], Q => a.length + b.length ≤ LINE ∧ Q (.lst (a ++ b))
  | [.str a, .str b], Q => a.length + b.length ≤ LINE ∧ Q (.str (a ++ b))
  | _, _ => False
def pInt (C : Int → Int → Prop) (f : Int → Int → Int) : List D → (D → Prop) → Prop
  | [.int a, .int b], Q => C a b ∧ Q (.int (f a b))
  | _, _ => False
def pMul : List D → (D → Prop) → Prop
  | [.int a, .int b], Q => MulOk a b ∧ Q (.int (a * b))
  | [.tup a, .int k], Q => (0 ≤ k ∧ k ≤ 1000 ∧ a.length ≤ 1000) ∧ Q (.tup (List.replicate k.toNat a).flatten)
  | _, _ => False
def pCmp (f : Int → Int → Bool) : List D → (D → Prop) → Prop
  | [.int a, .int b], Q => Q (.bl (f a b))
  | _, _ => False
mutual
def toPy : D → PyData
  | .non => .none
  | .bl b => .bool b
  | .int i => .int i
  | .str x => .str x
  | .tup xs => .tuple (toPys xs)
  | .lst xs => .list (toPys xs)
  | .scr _ => .dict []
  | .ins _ _ _ => .dict []
def toPys : List D → List PyData
  | [] => []
  | x :: r => toPy x :: toPys r
end
def deq (x y : D) : Bool := PyData.eqv (toPy x) (toPy y)
def plain (x : D) : Prop := SeqAt.shaped (toPy x) = true
def pEq (f : Bool → Bool) : List D → (D → Prop) → Prop
  | [x, y], Q => (plain x ∧ plain y) ∧ Q (.bl (f (deq x y)))
  | _, _ => False
def isNon : D → Bool
  | .non => true
  | _ => false
def pIsN (f : Bool → Bool) : List D → (D → Prop) → Prop
  | [x], Q => Q (.bl (f (isNon x)))
  | _, _ => False
def pLt : List D → (D → Prop) → Prop
  | [.int a, .int b], Q => Q (.bl (decide (a < b)))
  | [.tup a, .tup b], Q => ∃ ns ms : List Int, a = ns.map .int ∧ b = ms.map .int ∧ Q (.bl (HT.lexLt ns ms))
  | _, _ => False
def pLen : List D → (D → Prop) → Prop
  | [.tup a], Q => Q (.int a.length)
  | [.lst a], Q => Q (.int a.length)
  | [.str a], Q => a.length ≤ LINE ∧ Q (.int a.length)
  | _, _ => False
def pAbs : List D → (D → Prop) → Prop
  | [.int a], Q => Q (.int (if a < 0 then -a else a))
  | _, _ => False
def pNeg : List D → (D → Prop) → Prop
  | [.int a], Q => Q (.int (-a))
  | _, _ => False
def pInt1 : List D → (D → Prop) → Prop
  | [.int a], Q => Q (.int a)
  | [.bl b], Q => Q (.int (if b then 1 else 0))
  | _, _ => False
def pBool : List D → (D → Prop) → Prop
  | [.int a], Q => Q (.bl (a != 0))
  | [.bl b], Q => Q (.bl b)
  | _, _ => False
def isTp : Tp → D → Bool
  | .int, .int _ => true
  | .int, .bl _ => true
  | .bool, .bl _ => true
  | .str, .str _ => true
  | .tuple, .tup _ => true
  | .list, .lst _ => true
  | _, _ => false
def isIns : D → Bool
  | .ins _ _ _ => true
  | .scr _ => true
  | _ => false
def pIsi (t : Tp) : List D → (D → Prop) → Prop
  | [x], Q => (match t with | .cls _ => False | _ => True) ∧ isIns x = false ∧ Q (.bl (isTp t x))
  | _, _ => False
def pIx : List D → (D → Prop) → Prop
  | [.tup xs, .int k], Q => ∃ d, atI xs k = some d ∧ Q d
  | [.lst xs, .int k], Q => ∃ d, atI xs k = some d ∧ Q d
  | _, _ => False
def cutG {α : Type} (xs : List α) (lo hi : Option Int) : List α := (xs.drop (HT.sIx xs.length 0 lo)).take (HT.sIx xs.length xs.length hi - HT.sIx xs.length 0 lo)
def pSl (x : D) (lo hi : Option Int) (Q : D → Prop) : Prop := match x with
  | .tup xs => Q (.tup (cutG xs lo hi))
  | .lst xs => Q (.lst (cutG xs lo hi))
  | _ => False
def pSlc : Bool → Bool → List D → (D → Prop) → Prop
  | true, true, [x, .int a, .int b], Q => pSl x (some a) (some b) Q
  | true, false, [x, .int a], Q => pSl x (some a) none Q
  | false, true, [x, .int b], Q => pSl x none (some b) Q
  | false, false, [x], Q => pSl x none none Q
  | _, _, _, _ => False
def pTupD (ds : List D) (Q : D → Prop) : Prop := ds.length ≤ LINE ∧ Q (.tup ds)
def pLstD (ds : List D) (Q : D → Prop) : Prop := ds.length ≤ LINE ∧ Q (.lst ds)
def pTupOf : List D → (D → Prop) → Prop
  | [.tup xs], Q => Q (.tup xs)
  | [.lst xs], Q => Q (.tup xs)
  | _, _ => False
def pLstOf : List D → (D → Prop) → Prop
  | [.tup xs], Q => Q (.lst xs)
  | [.lst xs], Q => Q (.lst xs)
  | _, _ => False
def items : D → Option (List D)
  | .tup xs => some xs
  | .lst xs => some xs
  | .scr xs => some xs
  | _ => none
def pSum : List D → (D → Prop) → Prop
  | [x], Q => ∃ ns : List Int, items x = some (ns.map .int) ∧ Q (.int ns.sum)
  | _, _ => False
def pBs (f : List Bool → Bool) : List D → (D → Prop) → Prop
  | [.lst xs], Q => ∃ bs : List Bool, xs = bs.map .bl ∧ Q (.bl (f bs))
  | _, _ => False
def pExt (le : Int → Int → Prop) : List D → (D → Prop) → Prop
  | [x], Q => ∃ ns : List Int, items x = some (ns.map .int) ∧ 0 < ns.length ∧ ∀ m, m ∈ ns → (∀ n ∈ ns, le n m) → Q (.int m)
  | _, _ => False
def pTwo (f : Int → Int → Int) : List D → (D → Prop) → Prop
  | [.int a, .int b], Q => Q (.int (f a b))
  | _, _ => False

def Pr.w : Pr → List D → (D → Prop) → Prop
  | .add => pAdd
  | .sub => pInt (fun _ _ => True) (· - ·)
  | .mul => pMul
  | .fdiv => pInt (fun _ b => DivOk b) (· / ·)
  | .mod => pInt (fun _ b => 0 < b) (· % ·)
  | .pow => pInt CPow fun a b => a ^ b.toNat
  | .shl => pInt CPow fun a b => a * 2 ^ b.toNat
  | .neg => pNeg
  | .eq => pEq id
  | .ne => pEq not
  | .lt => pLt
  | .le => pCmp fun a b => decide (a ≤ b)
  | .gt => pCmp fun a b => decide (b < a)
  | .ge => pCmp fun a b => decide (b ≤ a)
  | .isN => pIsN id
  | .notN => pIsN not
  | .in_ => fun _ _ => False
  | .notin => fun _ _ => False
  | .len => pLen
  | .abs => pAbs
  | .int => pInt1
  | .bool => pBool
  | .max2 => pTwo fun a b => if b > a then b else a
  | .min2 => pTwo fun a b => if b < a then b else a
  | .sum => pSum
  | .all => pBs fun bs => bs.all id
  | .any => pBs fun bs => bs.any id
  | .max1 => pExt fun n m => n ≤ m
  | .min1 => pExt fun n m => m ≤ n
  | .sorted => fun _ _ => False
  | .tupOf => pTupOf
  | .lstOf => pLstOf
  | .isi t => pIsi t
  | .ix => pIx
  | .slc lo hi => pSlc lo hi
  | .tupD => pTupD
  | .lstD => pLstD

/-- op= over ints -/
def Pr.aw : Pr → List D → (D → Prop) → Prop
  | .add => pInt (fun _ _ => True) (· + ·)
  | .sub => pInt (fun _ _ => True) (· - ·)
  | .mul => pInt CMul (· * ·)
  | .mod => pInt (fun _ b => 0 < b) (· % ·)
  | _ => fun _ _ => False

def truth : D → Option Bool
  | .non => some false
  | .bl b => some b
  | .int i => some (i != 0)
  | .tup xs => some (!xs.isEmpty)
  | .lst xs => some (!xs.isEmpty)
  | _ => none

def bindT : Tg → D → Env → (Env → Prop) → Prop
  | .nm i, d, env, Q => Q (setS env i (.val d))
  | .tp is, .tup ds, env, Q => ds.length = is.length ∧ Q (setsS env is ds)
  | .tp _, _, _, _ => False

def compL (body : D → Env → (Option D → Env → Prop) → Prop) : List D → List D → Env → (List D → Env → Prop) → Prop
  | [], acc, env, Q => Q acc env
  | d :: ds, acc, env, Q => body d env fun r env' => match r with
    | some y => acc.length < LINE ∧ compL body ds (acc ++ [y]) env' Q
    | none => compL body ds acc env' Q

structure Po where
  nx : Env → Prop
  rt : Rv → Env → Prop
  bk : Env → Prop
  ct : Env → Prop
  ex : Exn → Env → Prop
def forL (tg : D → Env → (Env → Prop) → Prop) (body : Env → Po → Prop) : List D → Env → Po → Prop
  | [], env, P => P.nx env
  | d :: ds, env, P => tg d env fun env1 => body env1 { P with nx := fun e => forL tg body ds e P, ct := fun e => forL tg body ds e P, bk := P.nx }
def whL (c : Env → (Bool → Env → Prop) → Prop) (body : Env → Po → Prop) : Nat → Env → Po → Prop
  | 0, _, _ => False
  | n + 1, env, P => c env fun b env1 => (b = true → body env1 { P with nx := fun e => whL c body n e P, ct := fun e => whL c body n e P, bk := P.nx }) ∧ (b = false → P.nx env1)

def rngD (lo : Int) (n : Nat) : List D := (List.range n).map fun i => .int (lo + (i : Nat))
def enumD (xs : List D) : List D := (List.range xs.length).zip xs |>.map fun p => .tup [.int p.1, p.2]
def zipD (xs ys : List D) : List D := (xs.zip ys).map fun p => .tup [p.1, p.2]

def mkSeq (t : Bool) (ds : List D) : D := if t then .tup ds else .lst ds
def RgB (a b : Int) : Prop := -(2 ^ 62) ≤ a ∧ a < 2 ^ 62 ∧ -(2 ^ 62) ≤ b ∧ b < 2 ^ 62 ∧ (b - a).toNat ≤ 16777216

def outS : As → List Sl → Env → Env
  | .nil, _, env => env
  | .e _ r, _ :: os, env => outS r os env
  | .pk i r, o :: os, env => outS r os (setS env i o)
  | _, [], env => env
def slD : Sl → Option D
  | .un => none
  | .val d => some d
  | .own ds => some (.lst ds)

mutual
def wpE (Γ : Gam) : Ex → Env → (D → Env → Prop) → (Exn → Env → Prop) → Prop
  | .var i, env, Q, _ => match getS env i with
    | .un => False
    | .val d => Q d env
    | .own ds => Q (.lst ds) (setS env i (.val (.lst ds)))
  | .int n, env, Q, _ => Q (.int n) env
  | .bl b, env, Q, _ => Q (.bl b) env
  | .non, env, Q, _ => Q .non env
  | .str x, env, Q, _ => Q (.str x) env
  | .conI _ n, env, Q, _ => Q (.int n) env
  | .conT _ ns, env, Q, _ => Q (.tup (ns.map .int)) env
  | .pr p as, env, Q, E => wpA Γ as env (fun ds env' => p.w ds fun d => Q d env') E
  | .call f as, env, Q, E => wpC Γ as env (fun ss env' => gam Γ f ss (fun r os => Q r.d (outS as os env')) fun x os => E x (outS as os env')) E
  | .ife t a b, env, Q, E => wpT Γ t env (fun c env' => (c = true → wpE Γ a env' Q E) ∧ (c = false → wpE Γ b env' Q E)) E
  | .ands l, env, Q, E => wpAnds Γ l env Q E
  | .ors l, env, Q, E => wpOrs Γ l env Q E
  | .not_ a, env, Q, E => wpE Γ a env (fun d env' => ∃ b, d = .bl b ∧ Q (.bl (!b)) env') E
  | .chain p q a b c, env, Q, E => wpE Γ a env (fun x env1 => wpE Γ b env1 (fun y env2 => p.w [x, y] fun r => ∃ k, r = .bl k ∧
      ((k = true → wpE Γ c env2 (fun z env3 => q.w [y, z] fun d => Q d env3) E) ∧ (k = false → Q (.bl false) env2))) E) E
  | .comp vs tg it ts e, env, Q, E => wpI Γ it env (fun ds env1 => noOwn env1 vs ∧
      compL (fun d env2 k => bindT tg d env2 fun env3 => wpTss Γ true ts env3 (fun c env4 =>
        (c = true → wpE Γ e env4 (fun y env5 => k (some y) (wipeS env5 vs)) fun _ _ => False) ∧ (c = false → k none (wipeS env4 vs))) fun _ _ => False)
        ds [] (wipeS env1 vs) fun acc env' => Q (.lst acc) (restS env' env1 vs)) E
  | .popAt i k, env, Q, E => (∃ xs, getS env i = .own xs) ∧ wpE Γ k env (fun d env' => ∃ (n : Int) (ds : List D) (j : Nat) (y : D), d = .int n ∧ getS env' i = .own ds ∧ -(2 ^ 63) ≤ n ∧ n < 2 ^ 63 ∧ seqIndex? n ds.length = some j ∧ ds[j]? = some y ∧
      Q y (setS env' i (.own (ds.eraseIdx j)))) E
  | .pop i, env, Q, _ => ∃ (ds : List D) (y : D), getS env i = .own ds ∧ ds[ds.length - 1]? = some y ∧ Q y (setS env i (.own ds.dropLast))
  | .slc2 x l h, env, Q, E => wpE Γ x env (fun d env1 => wpE Γ l env1 (fun i env2 => ∃ n : Int, i = .int n ∧ wpE Γ h env2 (fun j env3 => ∃ m : Int, j = .int m ∧ pSl d (some n) (some m) fun r => Q r env3) E) E) E
  | .rg1 t a, env, Q, E => wpE Γ a env (fun d env' => ∃ n : Int, d = .int n ∧ RgB 0 n ∧ Q (mkSeq t (rngD 0 (n - 0).toNat)) env') E
  | .rg2 t a b, env, Q, E => wpE Γ a env (fun x env1 => wpE Γ b env1 (fun y env2 => ∃ m n : Int, x = .int m ∧ y = .int n ∧ RgB m n ∧ Q (mkSeq t (rngD m (n - m).toNat)) env2) E) E
def wpA (Γ : Gam) : As → Env → (List D → Env → Prop) → (Exn → Env → Prop) → Prop
  | .nil, env, Q, _ => Q [] env
  | .e a r, env, Q, E => wpE Γ a env (fun d env' => wpA Γ r env' (fun ds env'' => Q (d :: ds) env'') E) E
  | .pk i r, env, Q, E => (∃ d, slD (getS env i) = some d) ∧ wpA Γ r env (fun ds env' => ∃ d, slD (getS env' i) = some d ∧ Q (d :: ds) env') E
def wpC (Γ : Gam) : As → Env → (List Sl → Env → Prop) → (Exn → Env → Prop) → Prop
  | .nil, env, Q, _ => Q [] env
  | .e a r, env, Q, E => wpE Γ a env (fun d env' => wpC Γ r env' (fun ds env'' => Q (.val d :: ds) env'') E) E
  | .pk i r, env, Q, E => (∃ xs, getS env i = .own xs) ∧ wpC Γ r env (fun ds env' => ∃ xs, getS env' i = .own xs ∧ Q (.own xs :: ds) env') E
def wpAnds (Γ : Gam) : As → Env → (D → Env → Prop) → (Exn → Env → Prop) → Prop
  | .nil, _, _, _ => False
  | .e a .nil, env, Q, E => wpE Γ a env Q E
  | .e a (.e b r), env, Q, E => wpE Γ a env (fun d env' => ∃ c, d = .bl c ∧ (c = true → wpAnds Γ (.e b r) env' Q E) ∧ (c = false → Q (.bl false) env')) E
  | .e _ (.pk _ _), _, _, _ => False
  | .pk _ _, _, _, _ => False
def wpOrs (Γ : Gam) : As → Env → (D → Env → Prop) → (Exn → Env → Prop) → Prop
  | .nil, _, _, _ => False
  | .e a .nil, env, Q, E => wpE Γ a env Q E
  | .e a (.e b r), env, Q, E => wpE Γ a env (fun d env' => ∃ c, d = .bl c ∧ (c = true → Q (.bl true) env') ∧ (c = false → wpOrs Γ (.e b r) env' Q E)) E
  | .e _ (.pk _ _), _, _, _ => False
  | .pk _ _, _, _, _ => False
def wpT (Γ : Gam) : Ts → Env → (Bool → Env → Prop) → (Exn → Env → Prop) → Prop
  | .e a, env, Q, E => wpE Γ a env (fun d env' => ∃ c, truth d = some c ∧ Q c env') E
  | .cmp p as, env, Q, E => wpA Γ as env (fun ds env' => p.w ds fun d => ∃ c, d = .bl c ∧ Q c env') E
  | .ands l, env, Q, E => wpTss Γ true l env Q E
  | .ors l, env, Q, E => wpTss Γ false l env Q E
  | .not_ t, env, Q, E => wpT Γ t env (fun c env' => Q (!c) env') E
  | .chain p q a b c, env, Q, E => wpE Γ a env (fun x env1 => wpE Γ b env1 (fun y env2 => p.w [x, y] fun r => ∃ k, r = .bl k ∧
      ((k = true → wpE Γ c env2 (fun z env3 => q.w [y, z] fun d => ∃ c, d = .bl c ∧ Q c env3) E) ∧ (k = false → Q false env2))) E) E
/-- and (true), or (false): the empty row is its own word -/
def wpTss (Γ : Gam) : Bool → Tss → Env → (Bool → Env → Prop) → (Exn → Env → Prop) → Prop
  | k, .nil, env, Q, _ => Q k env
  | k, .cons t r, env, Q, E => wpT Γ t env (fun c env' => (c = k → wpTss Γ k r env' Q E) ∧ (c = !k → Q c env')) E
def wpI (Γ : Gam) : It → Env → (List D → Env → Prop) → (Exn → Env → Prop) → Prop
  | .seq a, env, Q, E => wpE Γ a env (fun d env' => ∃ ds, items d = some ds ∧ Q ds env') E
  | .rng1 a, env, Q, E => wpE Γ a env (fun d env' => ∃ n : Int, d = .int n ∧ (-(2 ^ 62) ≤ n ∧ n < 2 ^ 62) ∧ Q (rngD 0 n.toNat) env') E
  | .rng2 a b, env, Q, E => wpE Γ a env (fun x env1 => wpE Γ b env1 (fun y env2 => ∃ m n : Int, x = .int m ∧ y = .int n ∧ (-(2 ^ 62) ≤ m ∧ m < 2 ^ 62 ∧ -(2 ^ 62) ≤ n ∧ n < 2 ^ 62) ∧ Q (rngD m (n - m).toNat) env2) E) E
  | .zip a b, env, Q, E => wpE Γ a env (fun x env1 => wpE Γ b env1 (fun y env2 => ∃ xs ys, ((x = .tup xs ∧ y = .tup ys) ∨ (x = .lst xs ∧ y = .lst ys)) ∧ Q (zipD xs ys) env2) E) E
  | .enum a, env, Q, E => wpE Γ a env (fun d env' => ∃ ds, items d = some ds ∧ Q (enumD ds) env') E
  | .prE p as, env, Q, E => wpA Γ as env (fun ds env' => p.w ds fun d => ∃ xs, items d = some xs ∧ Q xs env') E
end

mutual
def wpS (Γ : Gam) : Sm → Env → Po → Prop
  | .asg t e, env, P => wpE Γ e env (fun d env' => bindT t d env' P.nx) P.ex
  | .asgO i e, env, P => wpE Γ e env (fun d env' => ∃ ds, d = .lst ds ∧ P.nx (setS env' i (.own ds))) P.ex
  | .asgC i f as, env, P => wpC Γ as env (fun ss env' => gam Γ f ss (fun r os => ∃ ds, r = .fr ds ∧ P.nx (setS (outS as os env') i (.own ds))) fun x os => P.ex x (outS as os env')) P.ex
  | .par i j a b, env, P => wpE Γ a env (fun x env1 => wpE Γ b env1 (fun y env2 => P.nx (setS (setS env2 i (.val x)) j (.val y))) P.ex) P.ex
  | .aug i p e, env, P => ∃ x, getS env i = .val x ∧ wpE Γ e env (fun y env' => p.aw [x, y] fun z => P.nx (setS env' i (.val z))) P.ex
  | .ret e, env, P => wpE Γ e env (fun d env' => P.rt (.v d) env') P.ex
  | .retO e, env, P => wpE Γ e env (fun d env' => ∃ ds, d = .lst ds ∧ P.rt (.fr ds) env') P.ex
  | .retN, env, P => P.rt (.v .non) env
  | .pass, env, P => P.nx env
  | .brk, env, P => P.bk env
  | .cont, env, P => P.ct env
  | .ife t a b, env, P => wpT Γ t env (fun c env' => (c = true → wpSs Γ a env' P) ∧ (c = false → wpSs Γ b env' P)) P.ex
  | .for_ t it b, env, P => wpI Γ it env (fun ds env' => forL (bindT t) (wpSs Γ b) ds env' P) P.ex
  | .while_ t b, env, P => ∃ n, whL (fun e Q => wpT Γ t e Q P.ex) (wpSs Γ b) n env P
  | .expr e, env, P => wpE Γ e env (fun _ env' => P.nx env') P.ex
  | .app i e, env, P => (∃ xs, getS env i = .own xs) ∧ wpE Γ e env (fun d env' => ∃ ds, getS env' i = .own ds ∧ ds.length < LINE ∧ P.nx (setS env' i (.own (ds ++ [d])))) P.ex
  | .setix i k e, env, P => wpE Γ e env (fun d env1 => (∃ xs, getS env1 i = .own xs) ∧ wpE Γ k env1 (fun n env2 => ∃ (m : Int) (ds : List D) (j : Nat), n = .int m ∧ getS env2 i = .own ds ∧ ixN ds.length m = some j ∧ P.nx (setS env2 i (.own (ds.set j d)))) P.ex) P.ex
  | .augix i k p e, env, P => (∃ xs, getS env i = .own xs) ∧ wpE Γ k env (fun n env1 => ∃ (m : Int) (ds : List D) (j : Nat) (x : D), n = .int m ∧ getS env1 i = .own ds ∧ ixN ds.length m = some j ∧ ds[j]? = some x ∧
      wpE Γ e env1 (fun y env2 => p.aw [x, y] fun z => getS env2 i = .own ds ∧ P.nx (setS env2 i (.own (ds.set j z)))) P.ex) P.ex
def wpSs (Γ : Gam) : Sms → Env → Po → Prop
  | .nil, env, P => P.nx env
  | .cons s r, env, P => wpS Γ s env { P with nx := fun e => wpSs Γ r e P }
end
end Pd

set_option Elab.async false
set_option linter.all false
set_option maxRecDepth 100000
/-! PyD, part 2: how data stands in the abstract heap. -/
namespace Pd
open PySem PySem.Spec L2

mutual
def Rep (K : PySem.W.Frag) (mg : Str → Option Value) (H : Hp) (Own : Addr → Prop) : D → V → Prop
  | .non, v => v = .non
  | .bl b, v => v = .bl b
  | .int i, v => v = .int i
  | .str x, v => v = .str x
  | .tup ds, v => ∃ a vs, v = .ref a ∧ SqT K H a vs ∧ Reps K mg H Own ds vs
  | .lst ds, v => ∃ a vs, v = .ref a ∧ ¬ Own a ∧ H a = some (.lst vs) ∧ Reps K mg H Own ds vs
  | .scr ds, v => ∃ a vs, v = .ref a ∧ ((¬ Own a ∧ Rd H a (.lst vs)) ∨ SqL K (fun _ => none) a vs) ∧ Reps K mg H Own ds vs
  | .ins c ks ds, v => ∃ a C dx vs, v = .ref a ∧ ¬ Own a ∧ mg c = some (.ref C) ∧ H a = some (.ins C dx (ks.zip vs)) ∧ ks.length = ds.length ∧ Reps K mg H Own ds vs
def Reps (K : PySem.W.Frag) (mg : Str → Option Value) (H : Hp) (Own : Addr → Prop) : List D → List V → Prop
  | [], vs => vs = []
  | d :: ds, vs => ∃ v r, vs = v :: r ∧ Rep K mg H Own d v ∧ Reps K mg H Own ds r
end

theorem sqL_none {K : PySem.W.Frag} {H : Hp} {a : Addr} {vs : List V} (h : SqL K (fun _ => none) a vs) : SqL K H a vs := by
  rcases h with (h | ⟨o, h⟩) | h
  · cases h
  · cases h
  · exact .inr h
/-- owned addresses hold lists -/
def OwnOk (H : Hp) (Own : Addr → Prop) : Prop := ∀ a, Own a → ∃ vs, H a = some (.lst vs)
/-- what is not owned stays -/
def Le (H : Hp) (Own : Addr → Prop) (H' : Hp) (Own' : Addr → Prop) : Prop := ∀ a o, H a = some o → ¬ Own a → H' a = some o ∧ ¬ Own' a
theorem Le.refl {H : Hp} {Own : Addr → Prop} : Le H Own H Own := fun _ _ h n => ⟨h, n⟩
theorem Le.trans {H H1 H2 : Hp} {O O1 O2 : Addr → Prop} (a : Le H O H1 O1) (b : Le H1 O1 H2 O2) : Le H O H2 O2 := fun x o h n => by
  obtain ⟨h1, n1⟩ := a x o h n
  exact b x o h1 n1

section
variable {K : PySem.W.Frag} {mg : Str → Option Value} {H H' : Hp} {Own Own' : Addr → Prop}
theorem Le.rd {u : HO} {a : Addr} (l : Le H Own H' Own') (n : ¬ Own a) (h : Rd H a u) : Rd H' a u ∧ ¬ Own' a := by
  rcases h with h | ⟨o, h⟩
  · exact ⟨.inl (l a _ h n).1, (l a _ h n).2⟩
  · exact ⟨.inr ⟨o, (l a _ h n).1⟩, (l a _ h n).2⟩
theorem OwnOk.notT (ok : OwnOk H Own) {a : Addr} {vs : List V} (h : Rd H a (.tup vs)) : ¬ Own a := fun o => by
  obtain ⟨ws, e⟩ := ok a o
  rcases h with h | ⟨ob, h⟩
  · rw [e] at h; cases h
  · rw [e] at h; cases h
theorem Le.sqT (l : Le H Own H' Own') (ok : OwnOk H Own) {a : Addr} {vs : List V} (h : SqT K H a vs) : SqT K H' a vs := by
  rcases h with h | h
  · exact .inl (l.rd (ok.notT h) h).1
  · exact .inr h
mutual
theorem Rep.le (l : Le H Own H' Own') (ok : OwnOk H Own) : ∀ (d : D) (v : V), Rep K mg H Own d v → Rep K mg H' Own' d v
  | .non, _, h => by simpa only [Rep] using h
  | .bl _, _, h => by simpa only [Rep] using h
  | .int _, _, h => by simpa only [Rep] using h
  | .str _, _, h => by simpa only [Rep] using h
  | .tup ds, v, h => by
    simp only [Rep] at h ⊢
    obtain ⟨a, vs, e, q, r⟩ := h
    exact ⟨a, vs, e, l.sqT ok q, Reps.le l ok ds vs r⟩
  | .lst ds, v, h => by
    simp only [Rep] at h ⊢
    obtain ⟨a, vs, e, n, q, r⟩ := h
    obtain ⟨q', n'⟩ := l a _ q n
    exact ⟨a, vs, e, n', q', Reps.le l ok ds vs r⟩
  | .scr ds, v, h => by
    simp only [Rep] at h ⊢
    obtain ⟨a, vs, e, q, r⟩ := h
    refine ⟨a, vs, e, ?_, Reps.le l ok ds vs r⟩
    rcases q with ⟨n, q⟩ | q
    · obtain ⟨q', n'⟩ := l.rd n q
      exact .inl ⟨n', q'⟩
    · exact .inr q
  | .ins c ks ds, v, h => by
    simp only [Rep] at h ⊢
    obtain ⟨a, C, dx, vs, e, n, m, q, z, r⟩ := h
    obtain ⟨q', n'⟩ := l a _ q n
    exact ⟨a, C, dx, vs, e, n', m, q', z, Reps.le l ok ds vs r⟩
theorem Reps.le (l : Le H Own H' Own') (ok : OwnOk H Own) : ∀ (ds : List D) (vs : List V), Reps K mg H Own ds vs → Reps K mg H' Own' ds vs
  | [], _, h => by simpa only [Reps] using h
  | d :: ds, vs, h => by
    simp only [Reps] at h ⊢
    obtain ⟨v, r, e, h1, h2⟩ := h
    exact ⟨v, r, e, Rep.le l ok d v h1, Reps.le l ok ds r h2⟩
end

/-! ### rows of data -/
theorem Reps.length : ∀ {ds : List D} {vs : List V}, Reps K mg H Own ds vs → vs.length = ds.length
  | [], _, h => by simp only [Reps] at h; subst h; rfl
  | d :: ds, _, h => by
    simp only [Reps] at h
    obtain ⟨v, r, rfl, _, h2⟩ := h
    simp [Reps.length h2]
theorem Reps.nil : Reps K mg H Own [] [] := by simp only [Reps]
theorem Reps.cons {d : D} {ds : List D} {v : V} {vs : List V} (a : Rep K mg H Own d v) (b : Reps K mg H Own ds vs) : Reps K mg H Own (d :: ds) (v :: vs) := by
  simp only [Reps]; exact ⟨v, vs, rfl, a, b⟩
theorem Reps.inv {d : D} {ds : List D} {vs : List V} (h : Reps K mg H Own (d :: ds) vs) : ∃ v r, vs = v :: r ∧ Rep K mg H Own d v ∧ Reps K mg H Own ds r := by
  simpa only [Reps] using h
theorem Reps.nil_inv {vs : List V} (h : Reps K mg H Own [] vs) : vs = [] := by simpa only [Reps] using h
theorem Reps.append : ∀ {ds es : List D} {vs ws : List V}, Reps K mg H Own ds vs → Reps K mg H Own es ws → Reps K mg H Own (ds ++ es) (vs ++ ws)
  | [], _, _, _, h, k => by rw [h.nil_inv]; exact k
  | d :: ds, _, _, _, h, k => by
    obtain ⟨v, r, rfl, h1, h2⟩ := h.inv
    exact .cons h1 (Reps.append h2 k)
theorem Reps.take : ∀ {ds : List D} {vs : List V} (n : Nat), Reps K mg H Own ds vs → Reps K mg H Own (ds.take n) (vs.take n)
  | _, _, 0, _ => by simpa using Reps.nil
  | [], _, n + 1, h => by rw [h.nil_inv]; simpa using Reps.nil
  | d :: ds, _, n + 1, h => by
    obtain ⟨v, r, rfl, h1, h2⟩ := h.inv
    exact .cons h1 (Reps.take n h2)
theorem Reps.drop : ∀ {ds : List D} {vs : List V} (n : Nat), Reps K mg H Own ds vs → Reps K mg H Own (ds.drop n) (vs.drop n)
  | _, _, 0, h => h
  | [], _, n + 1, h => by rw [h.nil_inv]; simpa using Reps.nil
  | d :: ds, _, n + 1, h => by
    obtain ⟨v, r, rfl, h1, h2⟩ := h.inv
    exact Reps.drop n h2
theorem Reps.get : ∀ {ds : List D} {vs : List V} {i : Nat} {d : D}, Reps K mg H Own ds vs → ds[i]? = some d → ∃ v, vs[i]? = some v ∧ Rep K mg H Own d v
  | [], _, _, _, _, e => by simp at e
  | d :: ds, _, 0, _, h, e => by
    obtain ⟨v, r, rfl, h1, h2⟩ := h.inv
    simp at e; subst e
    exact ⟨v, rfl, h1⟩
  | d :: ds, _, i + 1, _, h, e => by
    obtain ⟨v, r, rfl, h1, h2⟩ := h.inv
    obtain ⟨w, e1, e2⟩ := Reps.get (i := i) h2 (by simpa using e)
    exact ⟨w, by simpa using e1, e2⟩
theorem Reps.set {d : D} {v : V} (r : Rep K mg H Own d v) : ∀ {ds : List D} {vs : List V} (i : Nat), Reps K mg H Own ds vs → Reps K mg H Own (ds.set i d) (vs.set i v)
  | [], _, _, h => by rw [h.nil_inv]; simpa using Reps.nil
  | x :: ds, _, 0, h => by
    obtain ⟨w, t, rfl, h1, h2⟩ := h.inv
    exact .cons r h2
  | x :: ds, _, i + 1, h => by
    obtain ⟨w, t, rfl, h1, h2⟩ := h.inv
    exact .cons h1 (Reps.set r i h2)
theorem Reps.eraseIdx : ∀ {ds : List D} {vs : List V} (i : Nat), Reps K mg H Own ds vs → Reps K mg H Own (ds.eraseIdx i) (vs.eraseIdx i)
  | [], _, _, h => by rw [h.nil_inv]; simpa using Reps.nil
  | x :: ds, _, 0, h => by
    obtain ⟨w, t, rfl, h1, h2⟩ := h.inv
    exact h2
  | x :: ds, _, i + 1, h => by
    obtain ⟨w, t, rfl, h1, h2⟩ := h.inv
    exact .cons h1 (Reps.eraseIdx i h2)
theorem Reps.one {d : D} {vs : List V} (h : Reps K mg H Own [d] vs) : ∃ v, vs = [v] ∧ Rep K mg H Own d v := by
  obtain ⟨v, r, rfl, h1, h2⟩ := h.inv
  rw [h2.nil_inv]; exact ⟨v, rfl, h1⟩
theorem Reps.two {d e : D} {vs : List V} (h : Reps K mg H Own [d, e] vs) : ∃ v w, vs = [v, w] ∧ Rep K mg H Own d v ∧ Rep K mg H Own e w := by
  obtain ⟨v, r, rfl, h1, h2⟩ := h.inv
  obtain ⟨w, rfl, h3⟩ := h2.one
  exact ⟨v, w, rfl, h1, h3⟩
theorem Reps.ints : ∀ {ns : List Int} {vs : List V}, Reps K mg H Own (ns.map .int) vs → vs = ns.map .int
  | [], _, h => by rw [List.map_nil] at h; rw [h.nil_inv]; rfl
  | n :: ns, _, h => by
    rw [List.map_cons] at h
    obtain ⟨v, r, rfl, h1, h2⟩ := h.inv
    rw [Reps.ints h2, List.map_cons]
    simp only [Rep] at h1
    rw [h1]
theorem Reps.bls : ∀ {ns : List Bool} {vs : List V}, Reps K mg H Own (ns.map .bl) vs → vs = ns.map .bl
  | [], _, h => by rw [List.map_nil] at h; rw [h.nil_inv]; rfl
  | n :: ns, _, h => by
    rw [List.map_cons] at h
    obtain ⟨v, r, rfl, h1, h2⟩ := h.inv
    rw [Reps.bls h2, List.map_cons]
    simp only [Rep] at h1
    rw [h1]
theorem Reps.of_ints : ∀ (ns : List Int), Reps K mg H Own (ns.map .int) (ns.map .int)
  | [] => .nil
  | n :: ns => .cons (by simp only [Rep]) (Reps.of_ints ns)
end

/-! ### environments -/
theorem getS_setS_same : ∀ {env : Env} {i : Nat} {s : Sl}, i < env.length → getS (setS env i s) i = s
  | [], _, _, h => by simp at h
  | _ :: r, 0, _, _ => rfl
  | _ :: r, i + 1, s, h => by
    show getS (setS r i s) i = s
    exact getS_setS_same (by simpa using h)
theorem getS_setS_ne : ∀ {env : Env} {i j : Nat} {s : Sl}, j ≠ i → getS (setS env i s) j = getS env j
  | [], _, _, _, _ => rfl
  | _ :: r, 0, 0, _, h => absurd rfl h
  | _ :: r, 0, j + 1, _, _ => rfl
  | _ :: r, i + 1, 0, _, _ => rfl
  | _ :: r, i + 1, j + 1, s, h => by
    show getS (setS r i s) j = getS r j
    exact getS_setS_ne (fun e => h (by rw [e]))
theorem length_setS : ∀ {env : Env} {i : Nat} {s : Sl}, (setS env i s).length = env.length
  | [], _, _ => rfl
  | _ :: r, 0, _ => rfl
  | _ :: r, i + 1, s => by simp [setS, length_setS]
theorem getS_lt : ∀ {env : Env} {i : Nat}, getS env i ≠ .un → i < env.length
  | [], _, h => absurd rfl h
  | _ :: r, 0, _ => by simp
  | _ :: r, i + 1, h => by
    have := getS_lt (env := r) (i := i) h
    simp only [List.length_cons]; omega

/-- the foreign: lists that the frames above hold alone -/
abbrev Fgn := Addr → HO → Prop
def SlOk (K : PySem.W.Frag) (mg : Str → Option Value) (H : Hp) (Own : Addr → Prop) (σ : St) (i : Nat) : Sl → Prop
  | .un => True
  | .val d => ∃ v, σ[i]? = some (some v) ∧ Rep K mg H Own d v
  | .own ds => ∃ a vs, σ[i]? = some (some (.ref a)) ∧ Own a ∧ H a = some (.lst vs) ∧ Reps K mg H Own ds vs
def isOwn : Sl → Prop
  | .own _ => True
  | _ => False
structure SOk (K : PySem.W.Frag) (mg : Str → Option Value) (Fo : Fgn) (fx : List (Nat × Addr)) (σ : St) (H : Hp) (Own : Addr → Prop) (env : Env) : Prop where
  len : env.length = σ.length
  ok : OwnOk H Own
  at_ : ∀ i, SlOk K mg H Own σ i (getS env i)
  dis : ∀ i j a, i ≠ j → isOwn (getS env i) → isOwn (getS env j) → σ[i]? = some (some (.ref a)) → σ[j]? ≠ some (some (.ref a))
  fo : ∀ a o, Fo a o → Own a ∧ H a = some o ∧ ∀ i, isOwn (getS env i) → σ[i]? ≠ some (some (.ref a))
  fx : ∀ p ∈ fx, σ[p.1]? = some (some (.ref p.2))

section
variable {K : PySem.W.Frag} {mg : Str → Option Value} {Fo : Fgn} {fx : List (Nat × Addr)} {σ : St} {H H' : Hp} {Own Own' : Addr → Prop} {env : Env}
/-- a new object, not owned -/
theorem Le.new {p : Addr} {o : HO} (h : H p = none) : Le H Own (upd H p o) Own := fun a u e n => by
  rw [upd_ne (ne_of_none e h)]; exact ⟨e, n⟩
theorem OwnOk.new {p : Addr} {o : HO} (ok : OwnOk H Own) (h : H p = none) : OwnOk (upd H p o) Own := fun a q => by
  obtain ⟨vs, e⟩ := ok a q
  exact ⟨vs, by rw [upd_ne (ne_of_none e h)]; exact e⟩
theorem OwnOk.none (ok : OwnOk H Own) {p : Addr} (h : H p = none) : ¬ Own p := fun o => by
  obtain ⟨vs, e⟩ := ok p o
  rw [h] at e; cases e
/-- the heap grows, nothing that was is changed -/
theorem SlOk.same {i : Nat} {s : Sl} (l : Le H Own H' Own') (ok : OwnOk H Own) (ow : ∀ a vs, Own a → H a = some (.lst vs) → H' a = some (.lst vs) ∧ Own' a) (h : SlOk K mg H Own σ i s) : SlOk K mg H' Own' σ i s := by
  cases s with
  | un => trivial
  | val d =>
    obtain ⟨v, e, r⟩ := h
    exact ⟨v, e, Rep.le l ok d v r⟩
  | own ds =>
    obtain ⟨a, vs, e, o, q, r⟩ := h
    exact ⟨a, vs, e, (ow a vs o q).2, (ow a vs o q).1, Reps.le l ok ds vs r⟩
theorem SOk.grow (S : SOk K mg Fo fx σ H Own env) (l : Le H Own H' Own') (ok' : OwnOk H' Own') (ow : ∀ a vs, Own a → H a = some (.lst vs) → H' a = some (.lst vs) ∧ Own' a) : SOk K mg Fo fx σ H' Own' env where
  len := S.len
  ok := ok'
  at_ := fun i => (S.at_ i).same l S.ok ow
  dis := S.dis
  fo := fun a o f => by
    obtain ⟨h1, h2, h3⟩ := S.fo a o f
    obtain ⟨vs, e⟩ := S.ok a h1
    have e2 : o = .lst vs := by rw [h2] at e; cases e; rfl
    subst e2
    exact ⟨(ow a vs h1 h2).2, (ow a vs h1 h2).1, h3⟩
  fx := S.fx
theorem SOk.new {p : Addr} {o : HO} (S : SOk K mg Fo fx σ H Own env) (h : H p = none) : SOk K mg Fo fx σ (upd H p o) Own env :=
  S.grow (Le.new h) (S.ok.new h) fun a vs q e => ⟨by rw [upd_ne (ne_of_none e h)]; exact e, q⟩
/-- a new list, owned from now on -/
theorem Le.newOwn {p : Addr} {o : HO} (h : H p = none) : Le H Own (upd H p o) (fun a => Own a ∨ a = p) := fun a u e n => by
  have ne := ne_of_none e h
  rw [upd_ne ne]
  exact ⟨e, fun z => z.elim n ne⟩
theorem SOk.newOwn {p : Addr} {ws : List V} (S : SOk K mg Fo fx σ H Own env) (h : H p = none) : SOk K mg Fo fx σ (upd H p (.lst ws)) (fun a => Own a ∨ a = p) env :=
  S.grow (Le.newOwn h) (fun a q => by
    rcases q with q | q
    · exact (S.ok.new h) a q
    · rw [q]; exact ⟨ws, upd_same⟩) fun a vs q e => ⟨by rw [upd_ne (ne_of_none e h)]; exact e, .inl q⟩
theorem SOk.val (S : SOk K mg Fo fx σ H Own env) {i : Nat} {d : D} (e : getS env i = .val d) : ∃ v, σ[i]? = some (some v) ∧ Rep K mg H Own d v := by
  have := S.at_ i
  rw [e] at this
  exact this
theorem SOk.own (S : SOk K mg Fo fx σ H Own env) {i : Nat} {ds : List D} (e : getS env i = .own ds) : ∃ a vs, σ[i]? = some (some (.ref a)) ∧ Own a ∧ H a = some (.lst vs) ∧ Reps K mg H Own ds vs := by
  have := S.at_ i
  rw [e] at this
  exact this

/-- a slot is given a value -/
theorem SOk.setVal (S : SOk K mg Fo fx σ H Own env) {i : Nat} {d : D} {v : V} (hi : i < env.length) (hf : ∀ p ∈ fx, p.1 ≠ i) (r : Rep K mg H Own d v) : SOk K mg Fo fx (σ.set i (some v)) H Own (setS env i (.val d)) where
  len := by rw [length_setS, List.length_set]; exact S.len
  ok := S.ok
  at_ := fun j => by
    by_cases hj : j = i
    · subst hj
      rw [getS_setS_same hi]
      exact ⟨v, by rw [List.getElem?_set_self (by rw [← S.len]; exact hi)], r⟩
    · rw [getS_setS_ne hj]
      have := S.at_ j
      revert this
      cases getS env j with
      | un => intro _; trivial
      | val e => rintro ⟨w, e1, e2⟩; exact ⟨w, by rw [List.getElem?_set_ne (Ne.symm hj)]; exact e1, e2⟩
      | own es => rintro ⟨a, vs, e1, e2, e3, e4⟩; exact ⟨a, vs, by rw [List.getElem?_set_ne (Ne.symm hj)]; exact e1, e2, e3, e4⟩
  dis := fun j k a hjk h1 h2 => by
    have nj : j ≠ i := fun z => by subst z; rw [getS_setS_same hi] at h1; exact h1
    have nk : k ≠ i := fun z => by subst z; rw [getS_setS_same hi] at h2; exact h2
    rw [getS_setS_ne nj] at h1
    rw [getS_setS_ne nk] at h2
    rw [List.getElem?_set_ne (Ne.symm nj), List.getElem?_set_ne (Ne.symm nk)]
    exact S.dis j k a hjk h1 h2
  fo := fun a o f => by
    obtain ⟨h1, h2, h3⟩ := S.fo a o f
    refine ⟨h1, h2, fun j hj => ?_⟩
    have nj : j ≠ i := fun z => by subst z; rw [getS_setS_same hi] at hj; exact hj
    rw [getS_setS_ne nj] at hj
    rw [List.getElem?_set_ne (Ne.symm nj)]
    exact h3 j hj
  fx := fun p hp => by rw [List.getElem?_set_ne (Ne.symm (hf p hp))]; exact S.fx p hp

/-- a slot is given an owned list, whose address no other slot and no frame above holds -/
theorem SOk.setOwn (S : SOk K mg Fo fx σ H Own env) {i : Nat} {ds : List D} {a : Addr} {vs : List V} (hi : i < env.length) (hf : ∀ p ∈ fx, p.1 ≠ i) (ha : Own a) (hH : H a = some (.lst vs)) (r : Reps K mg H Own ds vs)
    (n1 : ∀ j, j ≠ i → isOwn (getS env j) → σ[j]? ≠ some (some (.ref a))) (n2 : ∀ o, ¬ Fo a o) : SOk K mg Fo fx (σ.set i (some (.ref a))) H Own (setS env i (.own ds)) where
  len := by rw [length_setS, List.length_set]; exact S.len
  ok := S.ok
  at_ := fun j => by
    by_cases hj : j = i
    · subst hj
      rw [getS_setS_same hi]
      exact ⟨a, vs, by rw [List.getElem?_set_self (by rw [← S.len]; exact hi)], ha, hH, r⟩
    · rw [getS_setS_ne hj]
      have := S.at_ j
      revert this
      cases getS env j with
      | un => intro _; trivial
      | val e => rintro ⟨w, e1, e2⟩; exact ⟨w, by rw [List.getElem?_set_ne (Ne.symm hj)]; exact e1, e2⟩
      | own es => rintro ⟨b, vs, e1, e2, e3, e4⟩; exact ⟨b, vs, by rw [List.getElem?_set_ne (Ne.symm hj)]; exact e1, e2, e3, e4⟩
  dis := fun j k b hjk h1 h2 => by
    have hσ : i < σ.length := by rw [← S.len]; exact hi
    by_cases nj : j = i
    · subst nj
      have nk : k ≠ j := fun z => hjk z.symm
      rw [getS_setS_ne nk] at h2
      rw [List.getElem?_set_self hσ, List.getElem?_set_ne (Ne.symm nk)]
      intro e
      cases e
      exact n1 k nk h2
    · rw [getS_setS_ne nj] at h1
      rw [List.getElem?_set_ne (Ne.symm nj)]
      by_cases nk : k = i
      · subst nk
        rw [List.getElem?_set_self hσ]
        intro e z
        cases z
        exact n1 j nj h1 e
      · rw [getS_setS_ne nk] at h2
        rw [List.getElem?_set_ne (Ne.symm nk)]
        exact S.dis j k b hjk h1 h2
  fo := fun b o f => by
    obtain ⟨h1, h2, h3⟩ := S.fo b o f
    refine ⟨h1, h2, fun j hj => ?_⟩
    by_cases nj : j = i
    · subst nj
      rw [List.getElem?_set_self (by rw [← S.len]; exact hi)]
      intro e
      cases e
      exact n2 o f
    · rw [getS_setS_ne nj] at hj
      rw [List.getElem?_set_ne (Ne.symm nj)]
      exact h3 j hj
  fx := fun p hp => by rw [List.getElem?_set_ne (Ne.symm (hf p hp))]; exact S.fx p hp

/-- an owned list is written: the slot stays, the heap changes at its address -/
theorem SOk.write (S : SOk K mg Fo fx σ H Own env) {i : Nat} {ds es : List D} {a : Addr} {ws : List V} (e : getS env i = .own ds) (hσ : σ[i]? = some (some (.ref a))) (r : Reps K mg H Own es ws) :
    SOk K mg Fo fx σ (upd H a (.lst ws)) Own (setS env i (.own es)) ∧ Le H Own (upd H a (.lst ws)) Own := by
  have hi : i < env.length := getS_lt (by rw [e]; intro z; cases z)
  obtain ⟨b, vs, e1, e2, e3, e4⟩ := S.own e
  have eb : b = a := by rw [hσ] at e1; cases e1; rfl
  subst eb
  have l : Le H Own (upd H b (.lst ws)) Own := fun x o h n => by
    have ne : x ≠ b := fun z => by subst z; exact n e2
    rw [upd_ne ne]; exact ⟨h, n⟩
  have io : isOwn (getS env i) := by rw [e]; trivial
  refine ⟨⟨by rw [length_setS]; exact S.len, fun x o => ?_, fun j => ?_, fun j k c hjk h1 h2 => ?_, fun c o f => ?_, S.fx⟩, l⟩
  · obtain ⟨us, h⟩ := S.ok x o
    by_cases z : x = b
    · subst z; exact ⟨ws, upd_same⟩
    · exact ⟨us, by rw [upd_ne z]; exact h⟩
  · by_cases hj : j = i
    · subst hj
      rw [getS_setS_same hi]
      exact ⟨b, ws, hσ, e2, upd_same, Reps.le l S.ok es ws r⟩
    · rw [getS_setS_ne hj]
      have := S.at_ j
      have dj := S.dis i j b (Ne.symm hj) io
      revert this dj
      cases getS env j with
      | un => intro _ _; trivial
      | val d => rintro ⟨w, q1, q2⟩ _; exact ⟨w, q1, Rep.le l S.ok d w q2⟩
      | own fs =>
        rintro ⟨c, us, q1, q2, q3, q4⟩ dj
        have nc : c ≠ b := fun z => by subst z; exact dj trivial hσ q1
        exact ⟨c, us, q1, q2, by rw [upd_ne nc]; exact q3, Reps.le l S.ok fs us q4⟩
  · have h1' : isOwn (getS env j) := by
      by_cases z : j = i
      · subst z; exact io
      · rw [getS_setS_ne z] at h1; exact h1
    have h2' : isOwn (getS env k) := by
      by_cases z : k = i
      · subst z; exact io
      · rw [getS_setS_ne z] at h2; exact h2
    exact S.dis j k c hjk h1' h2'
  · obtain ⟨h1, h2, h3⟩ := S.fo c o f
    have nc : c ≠ b := fun z => by subst z; exact h3 i io hσ
    refine ⟨h1, by rw [upd_ne nc]; exact h2, fun j hj => ?_⟩
    by_cases z : j = i
    · subst z; exact h3 j io
    · rw [getS_setS_ne z] at hj; exact h3 j hj

/-- an owned list becomes a value -/
theorem SOk.freeze (S : SOk K mg Fo fx σ H Own env) {i : Nat} {ds : List D} (e : getS env i = .own ds) :
    ∃ (Own' : Addr → Prop) (a : Addr), σ[i]? = some (some (.ref a)) ∧ SOk K mg Fo fx σ H Own' (setS env i (.val (.lst ds))) ∧ Le H Own H Own' ∧ Rep K mg H Own' (.lst ds) (.ref a) := by
  have hi : i < env.length := getS_lt (by rw [e]; intro z; cases z)
  obtain ⟨a, vs, e1, e2, e3, e4⟩ := S.own e
  have io : isOwn (getS env i) := by rw [e]; trivial
  have l : Le H Own H (fun x => Own x ∧ x ≠ a) := fun x o h n => ⟨h, fun z => n z.1⟩
  have rp : Rep K mg H (fun x => Own x ∧ x ≠ a) (.lst ds) (.ref a) := by
    simp only [Rep]
    exact ⟨a, vs, rfl, fun z => z.2 rfl, e3, Reps.le l S.ok ds vs e4⟩
  refine ⟨fun x => Own x ∧ x ≠ a, a, e1, ⟨by rw [length_setS]; exact S.len, fun x o => S.ok x o.1, fun j => ?_, fun j k c hjk h1 h2 => ?_, fun c o f => ?_, S.fx⟩, l, rp⟩
  · by_cases hj : j = i
    · subst hj
      rw [getS_setS_same hi]
      exact ⟨.ref a, e1, rp⟩
    · rw [getS_setS_ne hj]
      have := S.at_ j
      have dj := S.dis i j a (Ne.symm hj) io
      revert this dj
      cases getS env j with
      | un => intro _ _; trivial
      | val d => rintro ⟨w, q1, q2⟩ _; exact ⟨w, q1, Rep.le l S.ok d w q2⟩
      | own fs =>
        rintro ⟨c, us, q1, q2, q3, q4⟩ dj
        have nc : c ≠ a := fun z => by subst z; exact dj trivial e1 q1
        exact ⟨c, us, q1, ⟨q2, nc⟩, q3, Reps.le l S.ok fs us q4⟩
  · have nj : j ≠ i := fun z => by subst z; rw [getS_setS_same hi] at h1; exact h1
    have nk : k ≠ i := fun z => by subst z; rw [getS_setS_same hi] at h2; exact h2
    rw [getS_setS_ne nj] at h1
    rw [getS_setS_ne nk] at h2
    exact S.dis j k c hjk h1 h2
  · obtain ⟨h1, h2, h3⟩ := S.fo c o f
    refine ⟨⟨h1, fun z => ?_⟩, h2, fun j hj => ?_⟩
    · subst z; exact h3 i io e1
    · have nj : j ≠ i := fun z => by subst z; rw [getS_setS_same hi] at hj; exact hj
      rw [getS_setS_ne nj] at hj
      exact h3 j hj
end
end Pd

set_option Elab.async false
set_option linter.all false
set_option maxRecDepth 100000
/-! PyD, part 3: each primitive over data is what the layer's rule reads. -/
namespace Pd
open PySem PySem.Spec L2

/-- data whose outermost list may be owned -/
def RepO (K : PySem.W.Frag) (mg : Str → Option Value) (H : Hp) (Own : Addr → Prop) (d : D) (v : V) : Prop :=
  Rep K mg H Own d v ∨ ∃ ds a vs, d = .lst ds ∧ v = .ref a ∧ H a = some (.lst vs) ∧ Reps K mg H Own ds vs
def RepOs (K : PySem.W.Frag) (mg : Str → Option Value) (H : Hp) (Own : Addr → Prop) : List D → List V → Prop
  | [], vs => vs = []
  | d :: ds, vs => ∃ v r, vs = v :: r ∧ RepO K mg H Own d v ∧ RepOs K mg H Own ds r
section
variable {K : PySem.W.Frag} {mg : Str → Option Value} {H H' : Hp} {Own Own' : Addr → Prop}
theorem RepO.int {i : Int} {v : V} (h : RepO K mg H Own (.int i) v) : v = .int i := by
  rcases h with h | ⟨_, _, _, e, _⟩
  · simpa only [Rep] using h
  · cases e
theorem RepO.bl {i : Bool} {v : V} (h : RepO K mg H Own (.bl i) v) : v = .bl i := by
  rcases h with h | ⟨_, _, _, e, _⟩
  · simpa only [Rep] using h
  · cases e
theorem RepO.str {i : Str} {v : V} (h : RepO K mg H Own (.str i) v) : v = .str i := by
  rcases h with h | ⟨_, _, _, e, _⟩
  · simpa only [Rep] using h
  · cases e
theorem RepO.non {v : V} (h : RepO K mg H Own .non v) : v = .non := by
  rcases h with h | ⟨_, _, _, e, _⟩
  · simpa only [Rep] using h
  · cases e
theorem RepO.tup {ds : List D} {v : V} (h : RepO K mg H Own (.tup ds) v) : ∃ a vs, v = .ref a ∧ SqT K H a vs ∧ Reps K mg H Own ds vs := by
  rcases h with h | ⟨_, _, _, e, _⟩
  · simpa only [Rep] using h
  · cases e
theorem RepO.tupR {ds : List D} {v : V} (h : RepO K mg H Own (.tup ds) v) : Rep K mg H Own (.tup ds) v := by
  rcases h with h | ⟨_, _, _, e, _⟩
  · exact h
  · cases e
theorem RepO.lst {ds : List D} {v : V} (h : RepO K mg H Own (.lst ds) v) : ∃ a vs, v = .ref a ∧ H a = some (.lst vs) ∧ Reps K mg H Own ds vs := by
  rcases h with h | ⟨es, a, vs, e, ev, q, r⟩
  · simp only [Rep] at h
    obtain ⟨a, vs, e, _, q, r⟩ := h
    exact ⟨a, vs, e, q, r⟩
  · cases e
    exact ⟨a, vs, ev, q, r⟩
theorem RepO.scr {ds : List D} {v : V} (h : RepO K mg H Own (.scr ds) v) : ∃ a vs, v = .ref a ∧ SqL K H a vs ∧ Reps K mg H Own ds vs := by
  rcases h with h | ⟨_, _, _, e, _⟩
  · simp only [Rep] at h
    obtain ⟨a, vs, e, q, r⟩ := h
    exact ⟨a, vs, e, q.elim (fun z => .inl z.2) sqL_none, r⟩
  · cases e
theorem RepO.seq {d : D} {ds : List D} {v : V} (h : RepO K mg H Own d v) (e : items d = some ds) : ∃ a vs, v = .ref a ∧ (SqL K H a vs ∨ SqT K H a vs) ∧ Reps K mg H Own ds vs := by
  cases d with
  | tup xs => cases e; obtain ⟨a, vs, ev, q, r⟩ := h.tup; exact ⟨a, vs, ev, .inr q, r⟩
  | lst xs => cases e; obtain ⟨a, vs, ev, q, r⟩ := h.lst; exact ⟨a, vs, ev, .inl (SqL.of q), r⟩
  | scr xs => cases e; obtain ⟨a, vs, ev, q, r⟩ := h.scr; exact ⟨a, vs, ev, .inl q, r⟩
  | _ => cases e
theorem RepOs.nil_inv {vs : List V} (h : RepOs K mg H Own [] vs) : vs = [] := h
theorem RepOs.one {d : D} {vs : List V} (h : RepOs K mg H Own [d] vs) : ∃ v, vs = [v] ∧ RepO K mg H Own d v := by
  obtain ⟨v, r, rfl, h1, h2⟩ := h
  rw [show r = [] from h2]; exact ⟨v, rfl, h1⟩
theorem RepOs.two {d e : D} {vs : List V} (h : RepOs K mg H Own [d, e] vs) : ∃ v w, vs = [v, w] ∧ RepO K mg H Own d v ∧ RepO K mg H Own e w := by
  obtain ⟨v, r, rfl, h1, h2⟩ := h
  obtain ⟨w, rfl, h3⟩ := RepOs.one h2
  exact ⟨v, w, rfl, h1, h3⟩
theorem RepOs.three {d e f : D} {vs : List V} (h : RepOs K mg H Own [d, e, f] vs) : ∃ v w x, vs = [v, w, x] ∧ RepO K mg H Own d v ∧ RepO K mg H Own e w ∧ RepO K mg H Own f x := by
  obtain ⟨v, r, rfl, h1, h2⟩ := h
  obtain ⟨w, x, rfl, h3, h4⟩ := RepOs.two h2
  exact ⟨v, w, x, rfl, h1, h3, h4⟩
theorem Rep.tup_of {ds : List D} {a : Addr} {vs : List V} (q : SqT K H a vs) (r : Reps K mg H Own ds vs) : Rep K mg H Own (.tup ds) (.ref a) := by
  simp only [Rep]; exact ⟨a, vs, rfl, q, r⟩
theorem Rep.lst_of {ds : List D} {a : Addr} {vs : List V} (n : ¬ Own a) (q : H a = some (.lst vs)) (r : Reps K mg H Own ds vs) : Rep K mg H Own (.lst ds) (.ref a) := by
  simp only [Rep]; exact ⟨a, vs, rfl, n, q, r⟩
theorem cutG_V (vs : List V) (lo hi : Option Int) : cutV vs lo hi = cutG vs lo hi := rfl
theorem Reps.cut {ds : List D} {vs : List V} {lo hi : Option Int} (h : Reps K mg H Own ds vs) : Reps K mg H Own (cutG ds lo hi) (cutG vs lo hi) := by
  unfold cutG
  rw [h.length]
  exact (h.drop _).take _
theorem Reps.rep {ds : List D} {vs : List V} (h : Reps K mg H Own ds vs) : ∀ n : Nat, Reps K mg H Own (List.replicate n ds).flatten (List.replicate n vs).flatten
  | 0 => by simpa using Reps.nil
  | n + 1 => by
    rw [List.replicate_succ, List.replicate_succ, List.flatten_cons, List.flatten_cons]
    exact h.append (Reps.rep h n)
theorem Reps.at {ds : List D} {vs : List V} {k : Int} {d : D} (h : Reps K mg H Own ds vs) (e : atI ds k = some d) : ∃ v, atI vs k = some v ∧ Rep K mg H Own d v := by
  unfold atI at e ⊢
  rw [h.length]
  cases hi : ixN ds.length k with
  | none => rw [hi] at e; cases e
  | some j =>
    rw [hi] at e
    obtain ⟨v, e1, e2⟩ := h.get (i := j) e
    exact ⟨v, e1, e2⟩
end

/-- the layer's reading r of values does what w does on data -/
def PSim (X : Cx) (r : List V → Hp → VK → Prop) (w : List D → (D → Prop) → Prop) : Prop :=
  ∀ (Fo : Fgn) (fx : List (Nat × Addr)) (σ : L2.St) (H : Hp) (Own : Addr → Prop) (env : Env) (ds : List D) (vs : List V) (Q : D → Prop) (R : VK),
    SOk X.K X.mg Fo fx σ H Own env → RepOs X.K X.mg H Own ds vs → w ds Q →
    (∀ v H' Own' d, SOk X.K X.mg Fo fx σ H' Own' env → Le H Own H' Own' → Rep X.K X.mg H' Own' d v → Q d → R v H') → r vs H R
/-- .. and makes a new list -/
def PSimF (X : Cx) (r : List V → Hp → VK → Prop) (w : List D → (D → Prop) → Prop) : Prop :=
  ∀ (H : Hp) (Own : Addr → Prop) (ds : List D) (vs : List V) (Q : D → Prop) (R : VK), OwnOk H Own → RepOs X.K X.mg H Own ds vs → w ds Q →
    (∀ p es ws, H p = none → Reps X.K X.mg H Own es ws → Q (.lst es) → R (.ref p) (upd H p (.lst ws))) → r vs H R

section
variable {X : Cx}
theorem PSimF.sim {r : List V → Hp → VK → Prop} {w : List D → (D → Prop) → Prop} (h : PSimF X r w) : PSim X r w := by
  intro Fo fx σ H Own env ds vs Q R S rp hw k
  refine h H Own ds vs Q R S.ok rp hw fun p es ws hp rs q => ?_
  exact k (.ref p) _ Own (.lst es) (S.new hp) (Le.new hp) (Rep.lst_of (S.ok.none hp) upd_same (Reps.le (Le.new hp) S.ok es ws rs)) q
/-- a reading whose answer is a scalar, the heap as it is -/
theorem PSim.pure {r : List V → Hp → VK → Prop} {w : List D → (D → Prop) → Prop}
    (h : ∀ (H : Hp) (Own : Addr → Prop) (ds : List D) (vs : List V) (Q : D → Prop) (R : VK), OwnOk H Own → RepOs X.K X.mg H Own ds vs → w ds Q → (∀ d v, Rep X.K X.mg H Own d v → Q d → R v H) → r vs H R) : PSim X r w := by
  intro Fo fx σ H Own env ds vs Q R S rp hw k
  exact h H Own ds vs Q R S.ok rp hw fun d v rd q => k v H Own d S Le.refl rd q
/-- two-place readings -/
def r2 (r : R2) : List V → Hp → VK → Prop := fun vs H Q => match vs with
  | [x, y] => r x y H Q
  | _ => False
def r1 (r : V → Hp → VK → Prop) : List V → Hp → VK → Prop := fun vs H Q => match vs with
  | [x] => r x H Q
  | _ => False
/-- a new tuple -/
theorem newTup {Fo : Fgn} {fx : List (Nat × Addr)} {σ : L2.St} {H : Hp} {Own : Addr → Prop} {env : Env} {R : VK} {Q : D → Prop} (S : SOk X.K X.mg Fo fx σ H Own env) {p : Addr} {es : List D} {ws : List V} (hp : H p = none) (rs : Reps X.K X.mg H Own es ws) (q : Q (.tup es))
    (k : ∀ v H' Own' d, SOk X.K X.mg Fo fx σ H' Own' env → Le H Own H' Own' → Rep X.K X.mg H' Own' d v → Q d → R v H') : R (.ref p) (upd H p (.tup ws)) :=
  k (.ref p) _ Own (.tup es) (S.new hp) (Le.new hp) (Rep.tup_of (SqT.of upd_same) (Reps.le (Le.new hp) S.ok es ws rs)) q

/-! ### + -/
def rAddA (K : PySem.W.Frag) : R2 := fun x y H Q => (rI0 (fun i j => .int (i + j)) x y H Q) ∨ (∃ i k, x = .int i ∧ y = .bl k ∧ Q (.int (i + PyProof.Rows.b2i k)) H) ∨ rCatA K x y H Q ∨ rCat x y H Q ∨ (∃ i j, x = .str i ∧ y = .str j ∧ i.length + j.length ≤ sizeLine ∧ Q (.str (i ++ j)) H)
theorem op_addA : OpR X (binaryOp .Add) (rAddA X.K) := op_add.or (op_add_ib.or (op_catA.or (op_cat.or op_add_str)))
theorem sim_add : PSim X (r2 (rAddA X.K)) pAdd := by
  intro Fo fx σ H Own env ds vs Q R S rp hw k
  unfold pAdd at hw
  split at hw
  · rename_i a b
    obtain ⟨v, w, rfl, h1, h2⟩ := rp.two
    exact .inl ⟨a, b, h1.int, h2.int, k _ H Own (.int (a + b)) S Le.refl (by simp only [Rep]) hw⟩
  · rename_i a b
    obtain ⟨v, w, rfl, h1, h2⟩ := rp.two
    refine .inr (.inl ⟨a, b, h1.int, h2.bl, k _ H Own (.int (a + if b then 1 else 0)) S Le.refl ?_ hw⟩)
    simp only [Rep]; rfl
  · rename_i a b
    obtain ⟨v, w, rfl, h1, h2⟩ := rp.two
    obtain ⟨p1, xs, rfl, q1, r1⟩ := h1.tup
    obtain ⟨p2, ys, rfl, q2, r2⟩ := h2.tup
    obtain ⟨hz, hq⟩ := hw
    have l1 := r1.length
    have l2 := r2.length
    refine .inr (.inr (.inl ⟨p1, p2, xs, ys, rfl, rfl, q1, q2, (by rw [l1, l2]; exact hz), fun e => ?_, fun e1 e => ?_, fun _ _ p hp => newTup S hp (r1.append r2) hq k⟩))
    · subst e
      have : a = [] := List.eq_nil_of_length_eq_zero (by simpa using l1.symm)
      subst this
      exact k _ H Own _ S Le.refl h2.tupR hq
    · subst e
      have : b = [] := List.eq_nil_of_length_eq_zero (by simpa using l2.symm)
      subst this
      rw [List.append_nil] at hq
      exact k _ H Own _ S Le.refl h1.tupR hq
  · rename_i a b
    obtain ⟨v, w, rfl, h1, h2⟩ := rp.two
    obtain ⟨p1, xs, rfl, q1, r1⟩ := h1.lst
    obtain ⟨p2, ys, rfl, q2, r2⟩ := h2.lst
    obtain ⟨hz, hq⟩ := hw
    have l1 := r1.length
    have l2 := r2.length
    refine .inr (.inr (.inr (.inl ⟨p1, p2, xs, ys, rfl, rfl, q1, q2, (by rw [l1, l2]; exact hz), fun p hp => ?_⟩)))
    exact k (.ref p) _ Own (.lst (a ++ b)) (S.new hp) (Le.new hp) (Rep.lst_of (S.ok.none hp) upd_same (Reps.le (Le.new hp) S.ok _ _ (r1.append r2))) hq
  · rename_i a b
    obtain ⟨v, w, rfl, h1, h2⟩ := rp.two
    exact .inr (.inr (.inr (.inr ⟨a, b, h1.str, h2.str, hw.1, k _ H Own (.str (a ++ b)) S Le.refl (by simp only [Rep]) hw.2⟩)))
  · exact hw.elim

/-! ### ints -/
theorem sim_int {C : Int → Int → Prop} {f : Int → Int → Int} : PSim X (r2 (rI C fun i j => .int (f i j))) (pInt C f) := .pure fun H Own ds vs Q R ok rp hw k => by
  unfold pInt at hw
  split at hw
  · rename_i a b
    obtain ⟨v, w, rfl, h1, h2⟩ := rp.two
    exact ⟨a, b, h1.int, h2.int, hw.1, k (.int (f a b)) _ (by simp only [Rep]) hw.2⟩
  · exact hw.elim
theorem op_subT : OpR X (binaryOp .Sub) (rI (fun _ _ => True) fun i j => .int (i - j)) := by
  intro pins s σ H x y v u Q I rx ry h
  obtain ⟨i, j, e1, e2, _, q⟩ := h
  exact op_sub pins s σ H x y v u Q I rx ry ⟨i, j, e1, e2, q⟩
def rMulA (K : PySem.W.Frag) : R2 := fun x y H Q => (rI CMul (fun i j => .int (i * j)) x y H Q) ∨ (rI CMulW (fun i j => .int (i * j)) x y H Q) ∨ rRepA K x y H Q
theorem op_mulA : OpR X (binaryOp .Mult) (rMulA X.K) := op_mul.or (op_mulW.or op_repA)
theorem sim_mul : PSim X (r2 (rMulA X.K)) pMul := by
  intro Fo fx σ H Own env ds vs Q R S rp hw k
  unfold pMul at hw
  split at hw
  · rename_i a b
    obtain ⟨v, w, rfl, h1, h2⟩ := rp.two
    obtain ⟨c | c, q⟩ := hw
    · exact .inl ⟨a, b, h1.int, h2.int, c, k _ H Own (.int (a * b)) S Le.refl (by simp only [Rep]) q⟩
    · exact .inr (.inl ⟨a, b, h1.int, h2.int, c, k _ H Own (.int (a * b)) S Le.refl (by simp only [Rep]) q⟩)
  · rename_i a n
    obtain ⟨v, w, rfl, h1, h2⟩ := rp.two
    obtain ⟨p1, xs, rfl, q1, r1⟩ := h1.tup
    obtain ⟨⟨z0, z1, z2⟩, hq⟩ := hw
    have l1 := r1.length
    refine .inr (.inr ⟨p1, n, xs, rfl, h2.int, q1, z0, z1, by omega, fun e => ?_, fun _ _ p hp => newTup S hp (r1.rep n.toNat) hq k⟩)
    have e2 : (List.replicate n.toNat a).flatten = a := by
      rcases e with e | e
      · subst e
        have : a = [] := List.eq_nil_of_length_eq_zero (by simpa using l1.symm)
        subst this
        generalize n.toNat = m
        induction m with
        | zero => rfl
        | succ m ih => rw [List.replicate_succ, List.flatten_cons, ih] <;> rfl
      · subst e
        show (List.replicate 1 a).flatten = a
        simp
    rw [e2] at hq
    exact k _ H Own _ S Le.refl h1.tupR hq
  · exact hw.elim
theorem op_divA : OpR X (binaryOp .FloorDiv) (rI (fun _ b => DivOk b) fun i j => .int (i / j)) := op_fdivW
theorem sim_neg : PSim X (r1 (rU fun i => .int (-i))) pNeg := .pure fun H Own ds vs Q R ok rp hw k => by
  unfold pNeg at hw
  split at hw
  · rename_i a
    obtain ⟨v, rfl, h1⟩ := rp.one
    exact ⟨a, h1.int, k (.int (-a)) _ (by simp only [Rep]) hw⟩
  · exact hw.elim
/-! ### comparisons -/
theorem sim_cmp {f : Int → Int → Bool} : PSim X (r2 (rI0 fun i j => .bl (f i j))) (pCmp f) := .pure fun H Own ds vs Q R ok rp hw k => by
  unfold pCmp at hw
  split at hw
  · rename_i a b
    obtain ⟨v, w, rfl, h1, h2⟩ := rp.two
    exact ⟨a, b, h1.int, h2.int, k (.bl (f a b)) _ (by simp only [Rep]) hw⟩
  · exact hw.elim
def rLtA (K : PySem.W.Frag) : R2 := fun x y H Q => (rI0 (fun i j => .bl (decide (i < j))) x y H Q) ∨ rLtT K x y H Q
theorem op_ltA (hu : X.A.units < cLine) : OpR X (compareOp .Lt) (rLtA X.K) := op_lt.or (op_ltT hu)
theorem sim_lt : PSim X (r2 (rLtA X.K)) pLt := .pure fun H Own ds vs Q R ok rp hw k => by
  unfold pLt at hw
  split at hw
  · rename_i a b
    obtain ⟨v, w, rfl, h1, h2⟩ := rp.two
    exact .inl ⟨a, b, h1.int, h2.int, k (.bl _) _ (by simp only [Rep]) hw⟩
  · rename_i a b
    obtain ⟨v, w, rfl, h1, h2⟩ := rp.two
    obtain ⟨ns, ms, rfl, rfl, q⟩ := hw
    obtain ⟨p1, xs, rfl, q1, r1⟩ := h1.tup
    obtain ⟨p2, ys, rfl, q2, r2⟩ := h2.tup
    have e1 := r1.ints
    have e2 := r2.ints
    subst e1 e2
    exact .inr ⟨p1, p2, ns, ms, rfl, rfl, q1, q2, k (.bl _) _ (by simp only [Rep]) q⟩
  · exact hw.elim
theorem isNon_rep {K : PySem.W.Frag} {mg : Str → Option Value} {H : Hp} {Own : Addr → Prop} {d : D} {v : V} (h : RepO K mg H Own d v) : decide (v = .non) = isNon d := by
  rcases h with h | ⟨ds, a, vs, rfl, rfl, _⟩
  · cases d <;> simp only [Rep] at h
    · subst h; rfl
    · subst h; rfl
    · subst h; rfl
    · subst h; rfl
    · obtain ⟨a, vs, rfl, _⟩ := h; rfl
    · obtain ⟨a, vs, rfl, _⟩ := h; rfl
    · obtain ⟨a, vs, rfl, _⟩ := h; rfl
    · obtain ⟨a, C, dx, vs, rfl, _⟩ := h; rfl
  · rfl
def rIsN (f : Bool → Bool) : V → Hp → VK → Prop := fun x H Q => Q (.bl (f (decide (x = .non)))) H
theorem sim_isN {f : Bool → Bool} : PSim X (r1 (rIsN f)) (pIsN f) := .pure fun H Own ds vs Q R ok rp hw k => by
  unfold pIsN at hw
  split at hw
  · rename_i a
    obtain ⟨v, rfl, h1⟩ := rp.one
    show R (.bl (f (decide (v = .non)))) H
    rw [isNon_rep h1]
    exact k (.bl _) _ (by simp only [Rep]) hw
  · exact hw.elim
mutual
theorem dp_of {K : PySem.W.Frag} {mg : Str → Option Value} {H : Hp} {Own : Addr → Prop} : ∀ (d : D) (v : V), Rep K mg H Own d v → (toPy d).canLay0 = true → Dp K H v (toPy d)
  | .non, _, h, _ => by simp only [Rep] at h; subst h; exact .non
  | .bl _, _, h, _ => by simp only [Rep] at h; subst h; exact .bl _
  | .int _, _, h, _ => by simp only [Rep] at h; subst h; exact .int _
  | .str _, _, h, _ => by simp only [Rep] at h; subst h; exact .str _
  | .tup ds, v, h, c => by
    simp only [Rep] at h
    obtain ⟨a, vs, rfl, q, r⟩ := h
    exact .tup q (dps_of ds vs r c)
  | .lst ds, v, h, c => by
    simp only [Rep] at h
    obtain ⟨a, vs, rfl, _, q, r⟩ := h
    exact .lst (SqL.of q) (dps_of ds vs r c)
  | .scr ds, v, h, c => by simp only [toPy, PyData.canLay0] at c; cases c
  | .ins _ _ _, v, h, c => by simp only [toPy, PyData.canLay0] at c; cases c
theorem dps_of {K : PySem.W.Frag} {mg : Str → Option Value} {H : Hp} {Own : Addr → Prop} : ∀ (ds : List D) (vs : List V), Reps K mg H Own ds vs → PyData.canLayAll0 (toPys ds) = true → DpAll K H vs (toPys ds)
  | [], _, h, _ => by rw [h.nil_inv]; exact .nil
  | d :: ds, _, h, c => by
    obtain ⟨v, r, rfl, h1, h2⟩ := h.inv
    simp only [toPys, PyData.canLayAll0, Bool.and_eq_true] at c
    exact .cons (dp_of d v h1 c.1) (dps_of ds r h2 c.2)
end
theorem dpO_of {K : PySem.W.Frag} {mg : Str → Option Value} {H : Hp} {Own : Addr → Prop} {d : D} {v : V} (h : RepO K mg H Own d v) (c : plain d) : Dp K H v (toPy d) := by
  have c' := SeqAt.canLay_of_shaped c
  rcases h with h | ⟨ds, a, vs, rfl, rfl, q, r⟩
  · exact dp_of d v h c'
  · exact .lst (SqL.of q) (dps_of ds vs r c')
theorem sim_eq : PSim X (r2 (rEqD X.K)) (pEq id) := .pure fun H Own ds vs Q R ok rp hw k => by
  unfold pEq at hw
  split at hw
  · rename_i a b
    obtain ⟨v, w, rfl, h1, h2⟩ := rp.two
    obtain ⟨⟨c1, c2⟩, q⟩ := hw
    exact ⟨_, _, dpO_of h1 c1, dpO_of h2 c2, c1, c2, k (.bl _) _ (by simp only [Rep]; rfl) q⟩
  · exact hw.elim
theorem sim_ne : PSim X (r2 (rNeD X.K)) (pEq not) := .pure fun H Own ds vs Q R ok rp hw k => by
  unfold pEq at hw
  split at hw
  · rename_i a b
    obtain ⟨v, w, rfl, h1, h2⟩ := rp.two
    obtain ⟨⟨c1, c2⟩, q⟩ := hw
    exact ⟨_, _, dpO_of h1 c1, dpO_of h2 c2, c1, c2, k (.bl _) _ (by simp only [Rep]; rfl) q⟩
  · exact hw.elim
/-! ### built-ins -/
def rLen (K : PySem.W.Frag) : List V → Hp → VK → Prop := fun xs H Q => ∃ x n, xs = [x] ∧ LenV K x H n ∧ Q (.int n) H
theorem sim_len : PSim X (rLen X.K) pLen := .pure fun H Own ds vs Q R ok rp hw k => by
  unfold pLen at hw
  split at hw
  · rename_i a
    obtain ⟨v, rfl, h1⟩ := rp.one
    obtain ⟨p, xs, rfl, q, r⟩ := h1.tup
    exact ⟨_, a.length, rfl, .inr ⟨xs, q, r.length.symm⟩, k (.int a.length) _ (by simp only [Rep]) hw⟩
  · rename_i a
    obtain ⟨v, rfl, h1⟩ := rp.one
    obtain ⟨p, xs, rfl, q, r⟩ := h1.lst
    exact ⟨_, a.length, rfl, .inl ⟨xs, SqL.of q, r.length.symm⟩, k (.int a.length) _ (by simp only [Rep]) hw⟩
  · rename_i a
    obtain ⟨v, rfl, h1⟩ := rp.one
    obtain ⟨hz, hq⟩ := hw
    have e := h1.str
    subst e
    exact ⟨_, a.length, rfl, ⟨hz, rfl⟩, k (.int a.length) _ (by simp only [Rep]) hq⟩
  · exact hw.elim
def rAbs : List V → Hp → VK → Prop := fun xs H Q => ∃ i, xs = [.int i] ∧ Q (.int (if i < 0 then -i else i)) H
theorem sim_abs : PSim X rAbs pAbs := .pure fun H Own ds vs Q R ok rp hw k => by
  unfold pAbs at hw
  split at hw
  · rename_i a
    obtain ⟨v, rfl, h1⟩ := rp.one
    have e := h1.int
    subst e
    exact ⟨a, rfl, k (.int _) _ (by simp only [Rep]) hw⟩
  · exact hw.elim
def rInt1 : List V → Hp → VK → Prop := fun xs H Q => (∃ i, xs = [.int i] ∧ Q (.int i) H) ∨ ∃ k, xs = [.bl k] ∧ Q (.int (if k then 1 else 0)) H
theorem sim_int1 : PSim X rInt1 pInt1 := .pure fun H Own ds vs Q R ok rp hw k => by
  unfold pInt1 at hw
  split at hw
  · rename_i a
    obtain ⟨v, rfl, h1⟩ := rp.one
    have e := h1.int
    subst e
    exact .inl ⟨a, rfl, k (.int a) _ (by simp only [Rep]) hw⟩
  · rename_i a
    obtain ⟨v, rfl, h1⟩ := rp.one
    have e := h1.bl
    subst e
    exact .inr ⟨a, rfl, k (.int _) _ (by simp only [Rep]) hw⟩
  · exact hw.elim
def rBool1 : List V → Hp → VK → Prop := fun xs H Q => (∃ i, xs = [.int i] ∧ Q (.bl (i != 0)) H) ∨ ∃ k, xs = [.bl k] ∧ Q (.bl k) H
theorem sim_bool1 : PSim X rBool1 pBool := .pure fun H Own ds vs Q R ok rp hw k => by
  unfold pBool at hw
  split at hw
  · rename_i a
    obtain ⟨v, rfl, h1⟩ := rp.one
    have e := h1.int
    subst e
    exact .inl ⟨a, rfl, k (.bl _) _ (by simp only [Rep]) hw⟩
  · rename_i a
    obtain ⟨v, rfl, h1⟩ := rp.one
    have e := h1.bl
    subst e
    exact .inr ⟨a, rfl, k (.bl _) _ (by simp only [Rep]) hw⟩
  · exact hw.elim
def rTwo (f : Int → Int → Int) : List V → Hp → VK → Prop := fun xs H Q => ∃ i j, xs = [.int i, .int j] ∧ Q (.int (f i j)) H
theorem sim_two {f : Int → Int → Int} : PSim X (rTwo f) (pTwo f) := .pure fun H Own ds vs Q R ok rp hw k => by
  unfold pTwo at hw
  split at hw
  · rename_i a b
    obtain ⟨v, w, rfl, h1, h2⟩ := rp.two
    have e := h1.int
    have e2 := h2.int
    subst e e2
    exact ⟨a, b, rfl, k (.int _) _ (by simp only [Rep]) hw⟩
  · exact hw.elim
def rSumA (K : PySem.W.Frag) : List V → Hp → VK → Prop := fun xs H Q => rSum K xs H Q ∨ rSumT K xs H Q
theorem cr_sumA (hc : X.calm = true) : CallR X (.builtin "sum") (rSumA X.K) := (cr_sum hc).or (cr_sumT hc)
theorem sim_sum : PSim X (rSumA X.K) pSum := .pure fun H Own ds vs Q R ok rp hw k => by
  unfold pSum at hw
  split at hw
  · rename_i a
    obtain ⟨v, rfl, h1⟩ := rp.one
    obtain ⟨ns, e, q⟩ := hw
    obtain ⟨p, xs, rfl, hs, r⟩ := h1.seq e
    have e2 := r.ints
    subst e2
    rcases hs with hs | hs
    · exact .inl ⟨p, ns, rfl, hs, k (.int _) _ (by simp only [Rep]) q⟩
    · exact .inr ⟨p, ns, rfl, hs, k (.int _) _ (by simp only [Rep]) q⟩
  · exact hw.elim
def rMaxA (K : PySem.W.Frag) : List V → Hp → VK → Prop := fun xs H Q => rMax K xs H Q ∨ rMaxT K xs H Q
theorem cr_maxA (hc : X.calm = true) : CallR X (.builtin "max") (rMaxA X.K) := (cr_max hc).or (cr_maxT hc)
theorem sim_max : PSim X (rMaxA X.K) (pExt fun n m => n ≤ m) := .pure fun H Own ds vs Q R ok rp hw k => by
  unfold pExt at hw
  split at hw
  · rename_i a
    obtain ⟨v, rfl, h1⟩ := rp.one
    obtain ⟨ns, e, hne, q⟩ := hw
    obtain ⟨p, xs, rfl, hs, r⟩ := h1.seq e
    have e2 := r.ints
    subst e2
    rcases hs with hs | hs
    · exact .inl ⟨p, ns, rfl, hs, hne, fun m h1 h2 => k (.int _) _ (by simp only [Rep]) (q m h1 h2)⟩
    · exact .inr ⟨p, ns, rfl, hs, hne, fun m h1 h2 => k (.int _) _ (by simp only [Rep]) (q m h1 h2)⟩
  · exact hw.elim
def rMinA (K : PySem.W.Frag) : List V → Hp → VK → Prop := fun xs H Q => rMin K xs H Q ∨ rMinT K xs H Q
theorem cr_minA (hc : X.calm = true) : CallR X (.builtin "min") (rMinA X.K) := (cr_min hc).or (cr_minT hc)
theorem sim_min : PSim X (rMinA X.K) (pExt fun n m => m ≤ n) := .pure fun H Own ds vs Q R ok rp hw k => by
  unfold pExt at hw
  split at hw
  · rename_i a
    obtain ⟨v, rfl, h1⟩ := rp.one
    obtain ⟨ns, e, hne, q⟩ := hw
    obtain ⟨p, xs, rfl, hs, r⟩ := h1.seq e
    have e2 := r.ints
    subst e2
    rcases hs with hs | hs
    · exact .inl ⟨p, ns, rfl, hs, hne, fun m h1 h2 => k (.int _) _ (by simp only [Rep]) (q m h1 h2)⟩
    · exact .inr ⟨p, ns, rfl, hs, hne, fun m h1 h2 => k (.int _) _ (by simp only [Rep]) (q m h1 h2)⟩
  · exact hw.elim
theorem sim_all : PSim X (rAll X.K) (pBs fun bs => bs.all id) := .pure fun H Own ds vs Q R ok rp hw k => by
  unfold pBs at hw
  split at hw
  · rename_i a
    obtain ⟨v, rfl, h1⟩ := rp.one
    obtain ⟨bs, rfl, q⟩ := hw
    obtain ⟨p, xs, rfl, hs, r⟩ := h1.lst
    have e2 := r.bls
    subst e2
    exact ⟨p, bs, rfl, SqL.of hs, k (.bl _) _ (by simp only [Rep]) q⟩
  · exact hw.elim
theorem sim_any : PSim X (rAny X.K) (pBs fun bs => bs.any id) := .pure fun H Own ds vs Q R ok rp hw k => by
  unfold pBs at hw
  split at hw
  · rename_i a
    obtain ⟨v, rfl, h1⟩ := rp.one
    obtain ⟨bs, rfl, q⟩ := hw
    obtain ⟨p, xs, rfl, hs, r⟩ := h1.lst
    have e2 := r.bls
    subst e2
    exact ⟨p, bs, rfl, SqL.of hs, k (.bl _) _ (by simp only [Rep]) q⟩
  · exact hw.elim
/-! ### subscripts -/
theorem sim_ix : PSim X (r2 fun x y H Q => rIxL X.K x y H Q ∨ rIxT X.K x y H Q) pIx := .pure fun H Own ds vs Q R ok rp hw k => by
  unfold pIx at hw
  split at hw
  · rename_i xs n
    obtain ⟨v, w, rfl, h1, h2⟩ := rp.two
    obtain ⟨d, e, q⟩ := hw
    obtain ⟨p, ws, rfl, hs, r⟩ := h1.tup
    obtain ⟨u, e2, ru⟩ := r.at e
    exact .inr ⟨p, ws, n, u, rfl, h2.int, hs, e2, k d u ru q⟩
  · rename_i xs n
    obtain ⟨v, w, rfl, h1, h2⟩ := rp.two
    obtain ⟨d, e, q⟩ := hw
    obtain ⟨p, ws, rfl, hs, r⟩ := h1.lst
    obtain ⟨u, e2, ru⟩ := r.at e
    exact .inl ⟨p, ws, n, u, rfl, h2.int, SqL.of hs, e2, k d u ru q⟩
  · exact hw.elim
def rSlB (K : PySem.W.Frag) : V → Option Int → Option Int → Hp → VK → Prop := fun x lo hi H Q => rSlA K x lo hi H Q ∨ rSlL K x lo hi H Q
theorem sl_B : SlR X (rSlB X.K) := sl_tupA.or sl_list
theorem cutG_whole {α : Type} {xs : List α} {lo hi : Option Int} (h : HT.sIx xs.length 0 lo = 0 ∧ HT.sIx xs.length xs.length hi = xs.length) : cutG xs lo hi = xs := by
  unfold cutG
  rw [h.1, h.2]
  simp
theorem sim_sl {Fo : Fgn} {fx : List (Nat × Addr)} {σ : L2.St} {H : Hp} {Own : Addr → Prop} {env : Env} {R : VK} {Q : D → Prop} (S : SOk X.K X.mg Fo fx σ H Own env) {x : D} {v : V} {lo hi : Option Int} (rx : RepO X.K X.mg H Own x v) (hw : pSl x lo hi Q)
    (k : ∀ v H' Own' d, SOk X.K X.mg Fo fx σ H' Own' env → Le H Own H' Own' → Rep X.K X.mg H' Own' d v → Q d → R v H') : rSlB X.K v lo hi H R := by
  cases x with
  | tup xs =>
    obtain ⟨p, ws, rfl, hs, r⟩ := rx.tup
    refine .inl ⟨p, ws, rfl, hs, fun e => ?_, fun _ q hq => newTup S hq r.cut hw k⟩
    have e2 : cutG xs lo hi = xs := cutG_whole (by rw [← r.length]; exact e)
    have hw' : Q (.tup (cutG xs lo hi)) := hw
    rw [e2] at hw'
    exact k _ H Own _ S Le.refl rx.tupR hw'
  | lst xs =>
    obtain ⟨p, ws, rfl, hs, r⟩ := rx.lst
    refine .inr ⟨p, ws, rfl, SqL.of hs, fun q hq => ?_⟩
    exact k (.ref q) _ Own (.lst (cutG xs lo hi)) (S.new hq) (Le.new hq) (Rep.lst_of (S.ok.none hq) upd_same (Reps.le (Le.new hq) S.ok _ _ r.cut)) hw
  | _ => exact (show False from hw).elim
def rSlc (K : PySem.W.Frag) (a b : Bool) : List V → Hp → VK → Prop := fun vs H Q => match a, b, vs with
  | true, true, [x, l, u] => ∃ i j, l = .int i ∧ u = .int j ∧ rSlB K x (some i) (some j) H Q
  | true, false, [x, l] => ∃ i, l = .int i ∧ rSlB K x (some i) none H Q
  | false, true, [x, u] => ∃ j, u = .int j ∧ rSlB K x none (some j) H Q
  | false, false, [x] => rSlB K x none none H Q
  | _, _, _ => False
theorem sim_slc {a b : Bool} : PSim X (rSlc X.K a b) (pSlc a b) := by
  intro Fo fx σ H Own env ds vs Q R S rp hw k
  unfold pSlc at hw
  split at hw
  · rename_i x i j
    obtain ⟨v, w, u, rfl, h1, h2, h3⟩ := rp.three
    exact ⟨i, j, h2.int, h3.int, sim_sl S h1 hw k⟩
  · rename_i x i
    obtain ⟨v, w, rfl, h1, h2⟩ := rp.two
    exact ⟨i, h2.int, sim_sl S h1 hw k⟩
  · rename_i x i
    obtain ⟨v, w, rfl, h1, h2⟩ := rp.two
    exact ⟨i, h2.int, sim_sl S h1 hw k⟩
  · rename_i x
    obtain ⟨v, rfl, h1⟩ := rp.one
    exact sim_sl S h1 hw k
  · exact hw.elim
/-! ### displays, tuple(x), list(x) -/
theorem RepO.rep {K : PySem.W.Frag} {mg : Str → Option Value} {H : Hp} {Own : Addr → Prop} {d : D} {v : V} (h : RepO K mg H Own d v) (n : ∀ ds, d ≠ .lst ds) : Rep K mg H Own d v := by
  rcases h with h | ⟨ds, a, vs, e, _⟩
  · exact h
  · exact absurd e (n ds)
def rTupOf (K : PySem.W.Frag) : List V → Hp → VK → Prop := fun xs H Q => ∃ p ys, xs = [.ref p] ∧ ((SqL K H p ys ∧ ∀ l, H l = none → Q (.ref l) (upd H l (.tup ys))) ∨ (SqT K H p ys ∧ Q (.ref p) H))
theorem sim_tupOf : PSim X (rTupOf X.K) pTupOf := by
  intro Fo fx σ H Own env ds vs Q R S rp hw k
  unfold pTupOf at hw
  split at hw
  · rename_i xs
    obtain ⟨v, rfl, h1⟩ := rp.one
    obtain ⟨p, ws, rfl, hs, r⟩ := h1.tup
    exact ⟨p, ws, rfl, .inr ⟨hs, k _ H Own _ S Le.refl h1.tupR hw⟩⟩
  · rename_i xs
    obtain ⟨v, rfl, h1⟩ := rp.one
    obtain ⟨p, ws, rfl, hs, r⟩ := h1.lst
    exact ⟨p, ws, rfl, .inl ⟨SqL.of hs, fun q hq => newTup S hq r hw k⟩⟩
  · exact hw.elim
def rLstOf (K : PySem.W.Frag) : List V → Hp → VK → Prop := fun xs H Q => ∃ p ys, xs = [.ref p] ∧ (SqL K H p ys ∨ SqT K H p ys) ∧ ∀ l, H l = none → Q (.ref l) (upd H l (.lst ys))
theorem sim_lstOf : PSimF X (rLstOf X.K) pLstOf := by
  intro H Own ds vs Q R ok rp hw k
  unfold pLstOf at hw
  split at hw
  · rename_i xs
    obtain ⟨v, rfl, h1⟩ := rp.one
    obtain ⟨p, ws, rfl, hs, r⟩ := h1.tup
    exact ⟨p, ws, rfl, .inr hs, fun q hq => k q xs ws hq r hw⟩
  · rename_i xs
    obtain ⟨v, rfl, h1⟩ := rp.one
    obtain ⟨p, ws, rfl, hs, r⟩ := h1.lst
    exact ⟨p, ws, rfl, .inl (SqL.of hs), fun q hq => k q xs ws hq r hw⟩
  · exact hw.elim
/-- + of lists makes a new one -/
theorem sim_addF : PSimF X (r2 (rAddA X.K)) (fun ds Q => ∃ a b, ds = [.lst a, .lst b] ∧ a.length + b.length ≤ LINE ∧ Q (.lst (a ++ b))) := by
  intro H Own ds vs Q R ok rp hw k
  obtain ⟨a, b, rfl, hz, hq⟩ := hw
  obtain ⟨v, w, rfl, h1, h2⟩ := rp.two
  obtain ⟨p1, xs, rfl, q1, r1⟩ := h1.lst
  obtain ⟨p2, ys, rfl, q2, r2⟩ := h2.lst
  have l1 := r1.length
  have l2 := r2.length
  exact .inr (.inr (.inr (.inl ⟨p1, p2, xs, ys, rfl, rfl, q1, q2, (by rw [l1, l2]; exact hz), fun p hp => k p _ _ hp (r1.append r2) hq⟩)))
end
end Pd

set_option Elab.async false
set_option linter.all false
set_option maxRecDepth 100000
/-! PyD, part 4: readings of the IR's expressions; arguments; primitives; calls. -/
namespace Pd
open PySem PySem.Spec L2

/-- an exception's fields stand in its own dict -/
def XRep (K : PySem.W.Frag) (mg : Str → Option Value) (H : Hp) (Own : Addr → Prop) (x : Exn) (cls : Value) (dd : Option Addr) : Prop :=
  mg x.c = some cls ∧ ((x.ks = [] ∧ x.ds = [] ∧ dd = none) ∨ ∃ d vs, dd = some d ∧ ¬ Own d ∧ H d = some (.xd (x.ks.zip vs)) ∧ x.ks.length = x.ds.length ∧ Reps K mg H Own x.ds vs)
theorem XRep.le {K : PySem.W.Frag} {mg : Str → Option Value} {H H' : Hp} {Own Own' : Addr → Prop} {x : Exn} {cls : Value} {dd : Option Addr} (l : Le H Own H' Own') (ok : OwnOk H Own) (h : XRep K mg H Own x cls dd) : XRep K mg H' Own' x cls dd := by
  obtain ⟨m, h⟩ := h
  refine ⟨m, ?_⟩
  rcases h with h | ⟨d, vs, e, n, q, z, r⟩
  · exact .inl h
  · obtain ⟨q', n'⟩ := l d _ q n
    exact .inr ⟨d, vs, e, n', q', z, Reps.le l ok _ _ r⟩

section
variable (K : PySem.W.Frag) (mg : Str → Option Value) (Γ : Gam) (W : WX)
/-- what is wanted of an exception -/
def Ke (Fo : Fgn) (fx : List (Nat × Addr)) (σ : L2.St) (H : Hp) (Own : Addr → Prop) (E : Exn → Env → Prop) : Prop :=
  ∀ cls dd H' Own' env' x, SOk K mg Fo fx σ H' Own' env' → Le H Own H' Own' → XRep K mg H' Own' x cls dd → E x env' → W cls dd σ H'
def TX (ie : Ex) : TE := fun σ H R => ∃ Fo fx Own env Q E, SOk K mg Fo fx σ H Own env ∧ wpE Γ ie env Q E ∧
  (∀ v H' Own' env' d, SOk K mg Fo fx σ H' Own' env' → Le H Own H' Own' → Rep K mg H' Own' d v → Q d env' → R v H') ∧ Ke K mg W Fo fx σ H Own E
def TT' (t : Ts) : TT := fun σ H R => ∃ Fo fx Own env Q E, SOk K mg Fo fx σ H Own env ∧ wpT Γ t env Q E ∧
  (∀ b H' Own' env', SOk K mg Fo fx σ H' Own' env' → Le H Own H' Own' → Q b env' → R b H') ∧ Ke K mg W Fo fx σ H Own E
def TTs (k : Bool) (l : Tss) : TT := fun σ H R => ∃ Fo fx Own env Q E, SOk K mg Fo fx σ H Own env ∧ wpTss Γ k l env Q E ∧
  (∀ b H' Own' env', SOk K mg Fo fx σ H' Own' env' → Le H Own H' Own' → Q b env' → R b H') ∧ Ke K mg W Fo fx σ H Own E
/-- a new list that nobody else holds -/
def TXF (ie : Ex) : TE := fun σ H R => ∃ Fo fx Own env Q E, SOk K mg Fo fx σ H Own env ∧ wpE Γ ie env Q E ∧
  (∀ p H' Own' env' ds ws, SOk K mg Fo fx σ H' Own' env' → Le H Own H' Own' → Own' p → H' p = some (.lst ws) → Reps K mg H' Own' ds ws →
    (∀ i, isOwn (getS env' i) → σ[i]? ≠ some (some (.ref p))) → (∀ o, ¬ Fo p o) → Q (.lst ds) env' → R (.ref p) H') ∧ Ke K mg W Fo fx σ H Own E
/-- .. where only lists are wanted -/
def TXG (ie : Ex) : TE := fun σ H R => ∃ Fo fx Own env Q E, SOk K mg Fo fx σ H Own env ∧ wpE Γ ie env Q E ∧ (∀ d env', Q d env' → ∃ ds, d = .lst ds) ∧
  (∀ p H' Own' env' ds ws, SOk K mg Fo fx σ H' Own' env' → Le H Own H' Own' → Own' p → H' p = some (.lst ws) → Reps K mg H' Own' ds ws →
    (∀ i, isOwn (getS env' i) → σ[i]? ≠ some (some (.ref p))) → (∀ o, ¬ Fo p o) → Q (.lst ds) env' → R (.ref p) H') ∧ Ke K mg W Fo fx σ H Own E
/-- what a loop or a comprehension walks: the items ds, while what is not owned stays -/
def ItOk (J : L2.It) (H0 : Hp) (Own0 : Addr → Prop) (ds : List D) : Prop := ∃ G Y, Walk J ds.length G Y ∧ (∀ H1 Own1, Le H0 Own0 H1 Own1 → G H1) ∧
  ∀ i d H1 Own1 x H2, ds[i]? = some d → OwnOk H1 Own1 → Le H0 Own0 H1 Own1 → Y i H1 x H2 →
    (H2 = H1 ∧ Rep K mg H1 Own1 d x) ∨ ∃ T ws es, x = .ref T ∧ H1 T = none ∧ H2 = upd H1 T (.tup ws) ∧ d = .tup es ∧ Reps K mg H1 Own1 es ws
def TIt (it : It) : TI := fun σ H R => ∃ Fo fx Own env Q E, SOk K mg Fo fx σ H Own env ∧ wpI Γ it env Q E ∧
  (∀ J H' Own' env' ds, SOk K mg Fo fx σ H' Own' env' → Le H Own H' Own' → ItOk K mg J H' Own' ds → Q ds env' → R J H') ∧ Ke K mg W Fo fx σ H Own E
end

/-- several expressions, from the left -/
def nest : List TE → L2.St → Hp → (List V → Hp → Prop) → Prop
  | [], _, H, k => k [] H
  | t :: ts, σ, H, k => t σ H fun x H1 => nest ts σ H1 fun xs H2 => k (x :: xs) H2
def ops (K : PySem.W.Frag) (mg : Str → Option Value) (Γ : Gam) (W : WX) : As → List TE
  | .nil => []
  | .e a r => TX K mg Γ W a :: ops K mg Γ W r
  | .pk i r => tVar i :: ops K mg Γ W r

section
variable {K : PySem.W.Frag} {mg : Str → Option Value} {Γ : Gam} {W : WX} {Fo : Fgn} {fx : List (Nat × Addr)} {σ : L2.St} {H H' : Hp} {Own Own' : Addr → Prop} {env : Env}
theorem Ke.le {E : Exn → Env → Prop} (h : Ke K mg W Fo fx σ H Own E) (l : Le H Own H' Own') : Ke K mg W Fo fx σ H' Own' E := fun cls dd H2 O2 env2 x S l2 r q => h cls dd H2 O2 env2 x S (l.trans l2) r q
/-- an owned list that no slot and no frame above holds is let go -/
theorem SOk.drop (S : SOk K mg Fo fx σ H Own env) {p : Addr} (n1 : ∀ i, isOwn (getS env i) → σ[i]? ≠ some (some (.ref p))) (n2 : ∀ o, ¬ Fo p o) :
    SOk K mg Fo fx σ H (fun x => Own x ∧ x ≠ p) env ∧ Le H Own H (fun x => Own x ∧ x ≠ p) := by
  have l : Le H Own H (fun x => Own x ∧ x ≠ p) := fun x o h n => ⟨h, fun z => n z.1⟩
  refine ⟨⟨S.len, fun x o => S.ok x o.1, fun j => ?_, S.dis, fun a o f => ?_, S.fx⟩, l⟩
  · have := S.at_ j
    have dj := n1 j
    revert this dj
    cases getS env j with
    | un => intro _ _; trivial
    | val d => rintro ⟨w, q1, q2⟩ _; exact ⟨w, q1, Rep.le l S.ok d w q2⟩
    | own fs =>
      rintro ⟨c, us, q1, q2, q3, q4⟩ dj
      exact ⟨c, us, q1, ⟨q2, fun z => dj trivial (z ▸ q1)⟩, q3, Reps.le l S.ok fs us q4⟩
  · obtain ⟨h1, h2, h3⟩ := S.fo a o f
    exact ⟨⟨h1, fun z => n2 o (z ▸ f)⟩, h2, h3⟩
theorem SOk.isSet (S : SOk K mg Fo fx σ H Own env) {i : Nat} {d : D} (e : slD (getS env i) = some d) : ∃ v, σ[i]? = some (some v) ∧ RepO K mg H Own d v := by
  cases q : getS env i with
  | un => rw [q] at e; cases e
  | val x =>
    rw [q] at e; cases e
    obtain ⟨v, e1, e2⟩ := S.val q
    exact ⟨v, e1, .inl e2⟩
  | own xs =>
    rw [q] at e; cases e
    obtain ⟨a, vs, e1, _, e3, e4⟩ := S.own q
    exact ⟨.ref a, e1, .inr ⟨xs, a, vs, rfl, rfl, e3, e4⟩⟩
theorem RepO.le {d : D} {v : V} (l : Le H Own H' Own') (ok : OwnOk H Own) (h : Rep K mg H Own d v) : RepO K mg H' Own' d v := .inl (Rep.le l ok d v h)
theorem args_nest : ∀ (as : As) {H : Hp} {Own : Addr → Prop} {env : Env} {Q : List D → Env → Prop} {E : Exn → Env → Prop} {k : List V → Hp → Prop}, SOk K mg Fo fx σ H Own env → wpA Γ as env Q E →
    (∀ vs H' Own' env' ds, SOk K mg Fo fx σ H' Own' env' → Le H Own H' Own' → RepOs K mg H' Own' ds vs → Q ds env' → k vs H') → Ke K mg W Fo fx σ H Own E → nest (ops K mg Γ W as) σ H k
  | .nil, H, Own, env, Q, E, k, S, hw, ok, ke => by
    simp only [wpA] at hw
    exact ok [] H Own env [] S Le.refl rfl hw
  | .e a r, H, Own, env, Q, E, k, S, hw, ok, ke => by
    simp only [wpA] at hw
    refine ⟨Fo, fx, Own, env, _, E, S, hw, fun v H1 Own1 env1 d S1 l1 rd hr => ?_, ke⟩
    exact args_nest r S1 hr (fun vs H2 Own2 env2 ds S2 l2 rds q => ok (v :: vs) H2 Own2 env2 (d :: ds) S2 (l1.trans l2) ⟨v, vs, rfl, RepO.le l2 S1.ok rd, rds⟩ q) (ke.le l1)
  | .pk i r, H, Own, env, Q, E, k, S, hw, ok, ke => by
    simp only [wpA] at hw
    obtain ⟨⟨d0, e0⟩, hw⟩ := hw
    obtain ⟨v, ev, _⟩ := S.isSet e0
    refine ⟨v, ev, ?_⟩
    refine args_nest r S hw (fun vs H2 Own2 env2 ds S2 l2 rds q => ?_) ke
    obtain ⟨d, e, q⟩ := q
    obtain ⟨v', ev', rp⟩ := S2.isSet e
    have ee : v' = v := by rw [ev] at ev'; cases ev'; rfl
    subst ee
    exact ok (v' :: vs) H2 Own2 env2 (d :: ds) S2 l2 ⟨v', vs, rfl, rp, rds⟩ q
end

section
variable {X : Cx} {Γ : Gam} {W : WX} {e : Expr}
theorem PE.imp {t t' : TE} (h : PE X e t) (i : ∀ σ H Q, t' σ H Q → t σ H Q) : PE X e t' := ⟨fun pins s σ H Q I hw => h.run pins s σ H Q I (i σ H Q hw)⟩
theorem PT.imp {t t' : TT} (h : PT X e t) (i : ∀ σ H Q, t' σ H Q → t σ H Q) : PT X e t' := ⟨fun pins s σ H Q I hw => h.run pins s σ H Q I (i σ H Q hw)⟩
theorem PW.imp {t t' : TT} (h : PW X e t) (i : ∀ σ H Q, t' σ H Q → t σ H Q) : PW X e t' := ⟨fun wh pins s σ H Q I hw => h.run wh pins s σ H Q I (i σ H Q hw)⟩
theorem PSs.imp {sts : List Stmt} {t t' : TS} (h : PSs X sts t) (i : ∀ D σ H, t' D σ H → t D σ H) : PSs X sts t' := ⟨fun pins s σ H D I hw => h.run pins s σ H D I (i D σ H hw)⟩
theorem PS.imp {st : Stmt} {t t' : TS} (h : PS X st t) (i : ∀ D σ H, t' D σ H → t D σ H) : PS X st t' := ⟨fun pins s σ H D I hw => h.run pins s σ H D I (i D σ H hw)⟩
theorem PI.imp {tg : Expr} {t t' : TI} (h : PI X tg e t) (i : ∀ σ H Q, t' σ H Q → t σ H Q) : PI X tg e t' := ⟨fun pins s σ H R I hw => h.run pins s σ H R I (i σ H R hw)⟩

def nice : Expr → Bool
  | .Starred .. => false
  | .Set .. => false
  | .Slice .. => false
  | _ => true
inductive PEs (X : Cx) : List Expr → List TE → Prop
  | nil : PEs X [] []
  | cons {e : Expr} {es : List Expr} {t : TE} {ts : List TE} : nice e = true → PE X e t → PEs X es ts → PEs X (e :: es) (t :: ts)
theorem star_nice {e : Expr} {es : List Expr} {env : PySem.Env} (h : nice e = true) : starEach (e :: es) env = (false, eval e env) :: starEach es env := by
  cases e <;> first
    | rfl
    | (cases h)
theorem PEs.nice {es : List Expr} {ts : List TE} (h : PEs X es ts) : ∀ e ∈ es, Pd.nice e = true := by
  induction h with
  | nil => intro e he; cases he
  | cons h1 _ _ ih =>
    intro e he
    rcases List.mem_cons.mp he with rfl | he
    · exact h1
    · exact ih e he
theorem plain_back {pos : Pos} {env : PySem.Env} : ∀ {es : List Expr}, (∀ e ∈ es, nice e = true) → (backTo pos (starEach es env)).any (·.1) = false
  | [], _ => rfl
  | e :: es, h => by
    rw [star_nice (h e List.mem_cons_self)]
    show (false || (backTo pos (starEach es env)).any (·.1)) = false
    rw [plain_back fun e he => h e (List.mem_cons_of_mem _ he)] <;> rfl
theorem PEs.pa {es : List Expr} {ts : List TE} (h : PEs X es ts) : PA X es (nest ts) := by
  induction h with
  | nil => exact pa_nil
  | cons h1 h2 _ ih => exact pa_cons h2 ih (star_nice h1)
theorem PEs.one {a : Expr} {ts : List TE} (h : PEs X [a] ts) : ∃ t, ts = [t] ∧ PE X a t ∧ Pd.nice a = true := by
  cases h with
  | cons n p r => cases r; exact ⟨_, rfl, p, n⟩
theorem PEs.two {a b : Expr} {ts : List TE} (h : PEs X [a, b] ts) : ∃ t u, ts = [t, u] ∧ PE X a t ∧ PE X b u ∧ Pd.nice a = true ∧ Pd.nice b = true := by
  cases h with
  | cons n p r =>
    obtain ⟨u, rfl, q, m⟩ := r.one
    exact ⟨_, u, rfl, p, q, n, m⟩
theorem PEs.three {a b c : Expr} {ts : List TE} (h : PEs X [a, b, c] ts) : ∃ t u v, ts = [t, u, v] ∧ PE X a t ∧ PE X b u ∧ PE X c v := by
  cases h with
  | cons n p r =>
    obtain ⟨u, v, rfl, q, s, _⟩ := r.two
    exact ⟨_, u, v, rfl, p, q, s⟩

/-- a primitive -/
theorem pe_pr {p : Pr} {as : As} {r : List V → Hp → VK → Prop} (h : PE X e fun σ H R => nest (ops X.K X.mg Γ W as) σ H fun vs H1 => r vs H1 R) (s : PSim X r p.w) : PE X e (TX X.K X.mg Γ W (.pr p as)) := by
  refine PE.imp h fun σ H R hx => ?_
  obtain ⟨Fo, fx, Own, env, Q, E, S, hw, ok, ke⟩ := hx
  simp only [wpE] at hw
  refine args_nest as S hw (fun vs H' Own' env' ds S' l' rds q => ?_) ke
  exact s Fo fx σ H' Own' env' ds vs _ R S' rds q fun v H2 Own2 d S2 l2 rd hq => ok v H2 Own2 env' d S2 (l'.trans l2) rd hq
/-- .. that makes a new list -/
theorem pe_prF {p : Pr} {as : As} {r : List V → Hp → VK → Prop} (h : PE X e fun σ H R => nest (ops X.K X.mg Γ W as) σ H fun vs H1 => r vs H1 R) (s : PSimF X r p.w) : PE X e (TXF X.K X.mg Γ W (.pr p as)) := by
  refine PE.imp h fun σ H R hx => ?_
  obtain ⟨Fo, fx, Own, env, Q, E, S, hw, ok, ke⟩ := hx
  simp only [wpE] at hw
  refine args_nest as S hw (fun vs H' Own' env' ds S' l' rds q => ?_) ke
  refine s H' Own' ds vs _ R S'.ok rds q fun p es ws hp rs hq => ?_
  have np : ∀ i, isOwn (getS env' i) → σ[i]? ≠ some (some (.ref p)) := fun i hi ee => by
    cases q : getS env' i with
    | own xs =>
      obtain ⟨a, us, e1, _, e3, _⟩ := S'.own q
      rw [ee] at e1; cases e1
      rw [hp] at e3; cases e3
    | un => rw [q] at hi; exact hi
    | val d => rw [q] at hi; exact hi
  exact ok p _ _ env' es ws (S'.newOwn hp) (l'.trans (Le.newOwn hp)) (.inr rfl) upd_same (Reps.le (Le.newOwn hp) S'.ok es ws rs) np
    (fun o f => by obtain ⟨_, h2, _⟩ := S'.fo p o f; rw [hp] at h2; cases h2) hq
theorem PE.ofF {ie : Ex} (h : PE X e (TXF X.K X.mg Γ W ie)) : PE X e (TX X.K X.mg Γ W ie) := by
  refine PE.imp h fun σ H R hx => ?_
  obtain ⟨Fo, fx, Own, env, Q, E, S, hw, ok, ke⟩ := hx
  refine ⟨Fo, fx, Own, env, Q, E, S, hw, fun p H' Own' env' ds ws S' l' op hp rs n1 n2 q => ?_, ke⟩
  obtain ⟨S2, l2⟩ := S'.drop n1 n2
  exact ok (.ref p) H' _ env' (.lst ds) S2 (l'.trans l2) (Rep.lst_of (fun z => z.2 rfl) hp (Reps.le l2 S'.ok ds ws rs)) q
theorem PE.gOfF {ie : Ex} (h : PE X e (TXF X.K X.mg Γ W ie)) : PE X e (TXG X.K X.mg Γ W ie) := by
  refine PE.imp h fun σ H R hx => ?_
  obtain ⟨Fo, fx, Own, env, Q, E, S, hw, _, ok, ke⟩ := hx
  exact ⟨Fo, fx, Own, env, Q, E, S, hw, ok, ke⟩
/-- + as a new list -/
theorem pe_addG {as : As} (h : PE X e fun σ H R => nest (ops X.K X.mg Γ W as) σ H fun vs H1 => r2 (rAddA X.K) vs H1 R) : PE X e (TXG X.K X.mg Γ W (.pr .add as)) := by
  refine PE.imp h fun σ H R hx => ?_
  obtain ⟨Fo, fx, Own, env, Q, E, S, hw, lo, ok, ke⟩ := hx
  simp only [wpE] at hw
  refine args_nest as S hw (fun vs H' Own' env' ds S' l' rds q => ?_) ke
  have q2 : ∃ a b, ds = [.lst a, .lst b] ∧ a.length + b.length ≤ LINE ∧ Q (.lst (a ++ b)) env' := by
    have q' : pAdd ds fun d => Q d env' := q
    unfold pAdd at q'
    split at q'
    · obtain ⟨_, z⟩ := lo _ _ q'; cases z
    · obtain ⟨_, z⟩ := lo _ _ q'; cases z
    · obtain ⟨_, z⟩ := lo _ _ q'.2; cases z
    · exact ⟨_, _, rfl, q'.1, q'.2⟩
    · obtain ⟨_, z⟩ := lo _ _ q'.2; cases z
    · exact q'.elim
  refine sim_addF H' Own' ds vs (fun d => Q d env') R S'.ok rds q2 fun p es ws hp rs hq => ?_
  have np : ∀ i, isOwn (getS env' i) → σ[i]? ≠ some (some (.ref p)) := fun i hi ee => by
    cases q : getS env' i with
    | own xs =>
      obtain ⟨a, us, e1, _, e3, _⟩ := S'.own q
      rw [ee] at e1; cases e1
      rw [hp] at e3; cases e3
    | un => rw [q] at hi; exact hi
    | val d => rw [q] at hi; exact hi
  exact ok p _ _ env' es ws (S'.newOwn hp) (l'.trans (Le.newOwn hp)) (.inr rfl) upd_same (Reps.le (Le.newOwn hp) S'.ok es ws rs) np
    (fun o f => by obtain ⟨_, h2, _⟩ := S'.fo p o f; rw [hp] at h2; cases h2) hq
end
end Pd

set_option Elab.async false
set_option linter.all false
set_option maxRecDepth 100000
/-! PyD, part 5: which syntax a primitive is; the primitives' rules. -/
namespace Pd
open PySem PySem.Spec L2

/-- what a def's check knows: its names by slot, the defs that it calls, built-ins that nothing shadows, constants -/
structure Ck where
  N : List Str
  Gn : List (Str × Nat)
  Bn : List Str
  CI : List (Str × Int)
  CT : List (Str × List Int)
  lent : List Nat
def visB (sc : Scope) (x : Str) : Bool := match sc.names.lookup x with
  | some .local => true
  | some .cell => true
  | some .free => true
  | _ => false
def glB (sc : Scope) (x : Str) : Bool := match sc.names.lookup x with
  | some .globalImplicit => true
  | _ => false
def okVar (c : Ck) (sc : Scope) (i : Nat) (x : Str) : Bool := decide (c.N[i]? = some x) && visB sc x && !(x == ("__debug__" : Str)) && !(x == ("__classdict__" : Str))
def okGl (sc : Scope) (x : Str) : Bool := glB sc x && !(x == ("__debug__" : Str))
def bi (c : Ck) (sc : Scope) (x y : Str) : Bool := decide (x = y) && c.Bn.contains x && okGl sc x
def tpName : Tp → String
  | .int => "int"
  | .bool => "bool"
  | .str => "str"
  | .tuple => "tuple"
  | .list => "list"
  | .cls _ => "?"
def biTp (c : Ck) (sc : Scope) : Tp → Str → Bool
  | .int, g => bi c sc g "int"
  | .bool, g => bi c sc g "bool"
  | .str, g => bi c sc g "str"
  | .tuple, g => bi c sc g "tuple"
  | .list, g => bi c sc g "list"
  | .cls _, _ => false
def shBin (op : Operator) : Expr → Option (List Expr)
  | .BinOp a o b _ => if o = op then some [a, b] else none
  | _ => none
def shCmp (op : CmpOp) : Expr → Option (List Expr)
  | .Compare a [o] [b] _ => if o = op then some [a, b] else none
  | _ => none
def shIs (op : CmpOp) : Expr → Option (List Expr)
  | .Compare a [o] [.Constant .none _ _] _ => if o = op then some [a] else none
  | _ => none
def shCall1 (c : Ck) (sc : Scope) (y : Str) : Expr → Option (List Expr)
  | .Call (.Name f _) [a] [] _ => if bi c sc f y then some [a] else none
  | _ => none
def shCall2 (c : Ck) (sc : Scope) (y : Str) : Expr → Option (List Expr)
  | .Call (.Name f _) [a, b] [] _ => if bi c sc f y then some [a, b] else none
  | _ => none
def shIsi (c : Ck) (sc : Scope) (t : Tp) : Expr → Option (List Expr)
  | .Call (.Name f _) [a, .Name g _] [] _ => if bi c sc f "isinstance" && biTp c sc t g then some [a] else none
  | _ => none
def shNeg : Expr → Option (List Expr)
  | .UnaryOp .USub a _ => some [a]
  | _ => none
def shIx : Expr → Option (List Expr)
  | .Subscript a b _ => some [a, b]
  | _ => none
def shSlc (lo hi : Bool) : Expr → Option (List Expr)
  | .Subscript a (.Slice l u none _) _ => match lo, hi, l, u with
    | true, false, some x, none => some [a, x]
    | false, true, none, some y => some [a, y]
    | false, false, none, none => some [a]
    | _, _, _, _ => none
  | _ => none
def shTup : Expr → Option (List Expr)
  | .Tuple es _ _ => some es
  | _ => none
def shLst : Expr → Option (List Expr)
  | .List es _ => some es
  | _ => none
def shape (c : Ck) (sc : Scope) : Pr → Expr → Option (List Expr)
  | .add => shBin .Add
  | .sub => shBin .Sub
  | .mul => shBin .Mult
  | .fdiv => shBin .FloorDiv
  | .mod => shBin .Mod
  | .pow => shBin .Pow
  | .shl => shBin .LShift
  | .neg => shNeg
  | .eq => shCmp .Eq
  | .ne => shCmp .NotEq
  | .lt => shCmp .Lt
  | .le => shCmp .LtE
  | .gt => shCmp .Gt
  | .ge => shCmp .GtE
  | .isN => shIs .Is
  | .notN => shIs .IsNot
  | .in_ => fun _ => none
  | .notin => fun _ => none
  | .len => shCall1 c sc "len"
  | .abs => shCall1 c sc "abs"
  | .int => shCall1 c sc "int"
  | .bool => shCall1 c sc "bool"
  | .max2 => shCall2 c sc "max"
  | .min2 => shCall2 c sc "min"
  | .sum => shCall1 c sc "sum"
  | .all => shCall1 c sc "all"
  | .any => shCall1 c sc "any"
  | .max1 => shCall1 c sc "max"
  | .min1 => shCall1 c sc "min"
  | .sorted => fun _ => none
  | .tupOf => shCall1 c sc "tuple"
  | .lstOf => shCall1 c sc "list"
  | .isi t => shIsi c sc t
  | .ix => shIx
  | .slc lo hi => shSlc lo hi
  | .tupD => shTup
  | .lstD => shLst

/-- the foreign lists while a def is called: all that is owned but what is lent -/
def lentA (ss : List Sl) (vs : List V) (a : Addr) : Prop := ∃ i, isOwn (getS ss i) ∧ vs[i]? = some (.ref a)
/-- what a def gives, on the heap -/
def RetOk (K : PySem.W.Frag) (mg : Str → Option Value) (Fo : Fgn) (σ : L2.St) (H : Hp) (Own : Addr → Prop) (env : Env) : Rv → V → Prop
  | .v d, v => Rep K mg H Own d v
  | .fr ds, v => ∃ p ws, v = .ref p ∧ Own p ∧ H p = some (.lst ws) ∧ Reps K mg H Own ds ws ∧ (∀ i, isOwn (getS env i) → σ[i]? ≠ some (some (.ref p))) ∧ ∀ o, ¬ Fo p o
/-- a def's promise over data, as the layer's -/
def spOf (K : PySem.W.Frag) (mg : Str → Option Value) (n : Nat) (sp : DSp) : Sp := fun vs H Q E => ∃ (Fo : Fgn) (Own : Addr → Prop) (ss : List Sl) (Qd : Rv → List Sl → Prop) (Ed : Exn → List Sl → Prop),
  vs.length = n ∧ SOk K mg Fo [] (vs.map some) H Own ss ∧ (∀ i, i < n → getS ss i ≠ .un) ∧ sp ss Qd Ed ∧
  (∀ v H' Own' r os, SOk K mg Fo [] (vs.map some) H' Own' os → (∀ i, isOwn (getS os i) → isOwn (getS ss i)) → Le H Own H' Own' → RetOk K mg Fo (vs.map some) H' Own' os r v → Qd r os → Q v H') ∧
  (∀ cls dd H' Own' os x, SOk K mg Fo [] (vs.map some) H' Own' os → (∀ i, isOwn (getS os i) → isOwn (getS ss i)) → Le H Own H' Own' → XRep K mg H' Own' x cls dd → Ed x os → E cls dd H')

/-- the defs that a body calls keep their promises -/
def FnsOk (X : Cx) (Γ : Gam) : Prop := ∀ (f : Nat) (x : Str) (n : Nat) (sp : DSp), Γ[f]? = some (x, n, sp) → ∃ (k : Nat) (fa : Addr) (fd : FuncData) (ps : List Str), ps.length = n ∧
  FnOk X.prog X.w X.K X.mg X.base (L2.CX X.prog X.w) k fa fd ps (spOf X.K X.mg n sp) ∧ Room k X.A ∧ X.mg x = some (.ref fa) ∧ PySem.W.keepIn X.K (.ref fa) = true ∧ Binds X.K fd ps []
/-- constants of the module -/
structure ConsOk (K : PySem.W.Frag) (mg : Str → Option Value) (c : Ck) : Prop where
  ci : ∀ p ∈ c.CI, ∃ t, mg p.1 = some (.int p.2 t)
  ct : ∀ p ∈ c.CT, ∃ a, mg p.1 = some (.ref a) ∧ ∀ H, SqT K H a (p.2.map .int)
structure Cok (X : Cx) (c : Ck) (Γ : Gam) (W : WX) : Prop where
  N : X.N = c.N
  nd : X.N.Nodup
  calm : X.calm = true
  units : X.A.units + 64 < cLine
  fns : FnsOk X Γ
  gn : c.Gn = Γ.map fun s => (s.1, s.2.1)
  bl : ∀ x ∈ c.Bn, X.mg x = none
  cons : ConsOk X.K X.mg c
  tk : Takes X W

section
variable {X : Cx} {c : Ck} {Γ : Gam} {W : WX}
theorem visB_vis {sc : Scope} {x : Str} (h : visB sc x = true) : Vis sc x := by
  unfold visB at h
  split at h
  · exact .inl (by assumption)
  · exact .inr (.inl (by assumption))
  · exact .inr (.inr (by assumption))
  · cases h
theorem okGl_gl (h : okGl X.env.scope x = true) : Gl X x ∧ (x == ("__debug__" : Str)) = false := by
  unfold okGl glB at h
  rw [Bool.and_eq_true] at h
  obtain ⟨h1, h2⟩ := h
  split at h1
  · exact ⟨by assumption, by simpa using h2⟩
  · cases h1
structure Bi (X : Cx) (x y : Str) : Prop where
  e : x = y
  gl : Gl X x
  db : (x == ("__debug__" : Str)) = false
  no : X.mg x = none
theorem bi_ok (C : Cok X c Γ W) {x y : Str} (h : bi c X.env.scope x y = true) : Bi X x y := by
  unfold bi at h
  simp only [Bool.and_eq_true, decide_eq_true_eq] at h
  obtain ⟨⟨h1, h2⟩, h3⟩ := h
  obtain ⟨g, d⟩ := okGl_gl h3
  exact ⟨h1, g, d, C.bl x (by simpa using h2)⟩
theorem ps_var (C : Cok X c Γ W) {i : Nat} {x : Str} {pos : Pos} (h : okVar c X.env.scope i x = true) : PE X (.Name x pos) (tVar i) := by
  unfold okVar at h
  simp only [Bool.and_eq_true, decide_eq_true_eq, Bool.not_eq_true'] at h
  obtain ⟨⟨⟨h1, h2⟩, h3⟩, h4⟩ := h
  exact pe_var (by rw [C.N]; exact h1) (visB_vis h2) h3 h4

/-! ### the syntax of each -/
theorem shBin_of {op : Operator} {e : Expr} {es : List Expr} (h : shBin op e = some es) : ∃ a b p, e = .BinOp a op b p ∧ es = [a, b] := by
  unfold shBin at h
  split at h
  · rename_i a o b p
    split at h
    · rename_i ho
      cases h; subst ho
      exact ⟨a, b, p, rfl, rfl⟩
    · cases h
  · cases h
theorem shCmp_of {op : CmpOp} {e : Expr} {es : List Expr} (h : shCmp op e = some es) : ∃ a b p, e = .Compare a [op] [b] p ∧ es = [a, b] := by
  unfold shCmp at h
  split at h
  · rename_i a o b p
    split at h
    · rename_i ho
      cases h; subst ho
      exact ⟨a, b, p, rfl, rfl⟩
    · cases h
  · cases h
theorem shIs_of {op : CmpOp} {e : Expr} {es : List Expr} (h : shIs op e = some es) : ∃ a k q p, e = .Compare a [op] [.Constant .none k q] p ∧ es = [a] := by
  unfold shIs at h
  split at h
  · rename_i a o k q p
    split at h
    · rename_i ho
      cases h; subst ho
      exact ⟨a, k, q, p, rfl, rfl⟩
    · cases h
  · cases h
theorem shCall1_of (C : Cok X c Γ W) {y : Str} {e : Expr} {es : List Expr} (h : shCall1 c X.env.scope y e = some es) : ∃ f a p q, e = .Call (.Name f p) [a] [] q ∧ es = [a] ∧ Bi X f y := by
  unfold shCall1 at h
  split at h
  · rename_i f p a q
    split at h
    · rename_i hb
      cases h
      exact ⟨f, a, p, q, rfl, rfl, bi_ok C hb⟩
    · cases h
  · cases h
theorem shCall2_of (C : Cok X c Γ W) {y : Str} {e : Expr} {es : List Expr} (h : shCall2 c X.env.scope y e = some es) : ∃ f a b p q, e = .Call (.Name f p) [a, b] [] q ∧ es = [a, b] ∧ Bi X f y := by
  unfold shCall2 at h
  split at h
  · rename_i f p a b q
    split at h
    · rename_i hb
      cases h
      exact ⟨f, a, b, p, q, rfl, rfl, bi_ok C hb⟩
    · cases h
  · cases h

section
variable {as : As} {e : Expr} {es : List Expr}
theorem sound_bin {op : Operator} {p : Pr} {r : R2} (ho : OpR X (binaryOp op) r) (hs : PSim X (r2 r) p.w) (h : shBin op e = some es) (pe : PEs X es (ops X.K X.mg Γ W as)) : PE X e (TX X.K X.mg Γ W (.pr p as)) := by
  obtain ⟨a, b, q, rfl, rfl⟩ := shBin_of h
  obtain ⟨ta, tb, et, ha, hb, _⟩ := pe.two
  exact pe_pr (r := r2 r) (by rw [et]; exact pe_op ho ha hb) hs
theorem sound_cmp {op : CmpOp} {p : Pr} {r : R2} (ho : OpR X (compareOp op) r) (hs : PSim X (r2 r) p.w) (h : shCmp op e = some es) (pe : PEs X es (ops X.K X.mg Γ W as)) (n1 : op ≠ .In) (n2 : op ≠ .NotIn) : PE X e (TX X.K X.mg Γ W (.pr p as)) := by
  obtain ⟨a, b, q, rfl, rfl⟩ := shCmp_of h
  obtain ⟨ta, tb, et, ha, hb, _⟩ := pe.two
  exact pe_pr (r := r2 r) (by rw [et]; exact pe_cmpR ho ha hb (nomark b n1 n2)) hs
theorem sound_call1 {p : Pr} {id : String} {y : Str} {r : List V → Hp → VK → Prop} (C : Cok X c Γ W) (hc : CallR X (.builtin id) r) (hs : PSim X r p.w) (hv : bootBuiltins y = some (.builtin id)) (hn : y ≠ "__name__") (h : shCall1 c X.env.scope y e = some es) (pe : PEs X es (ops X.K X.mg Γ W as)) : PE X e (TX X.K X.mg Γ W (.pr p as)) := by
  obtain ⟨f, a, q, q2, rfl, rfl, b⟩ := shCall1_of C h
  obtain ⟨ta, et, ha, na⟩ := pe.one
  obtain rfl := b.e
  exact pe_pr (r := r) (by rw [et]; exact pe_callB hc b.gl b.no hv (pa_cons ha pa_nil (star_nice na)) hn b.db (star_nice na) rfl) hs
theorem sound_callT {p : Pr} {id : String} {y : Str} {r : List V → Hp → VK → Prop} (C : Cok X c Γ W) (hc : CallR X (.type id) r) (hs : PSim X r p.w) (hv : bootBuiltins y = some (.type id)) (hn : y ≠ "__name__") (h : shCall1 c X.env.scope y e = some es) (pe : PEs X es (ops X.K X.mg Γ W as)) : PE X e (TX X.K X.mg Γ W (.pr p as)) := by
  obtain ⟨f, a, q, q2, rfl, rfl, b⟩ := shCall1_of C h
  obtain ⟨ta, et, ha, na⟩ := pe.one
  obtain rfl := b.e
  exact pe_pr (r := r) (by rw [et]; exact pe_callTy hc b.gl b.no hv (pa_cons ha pa_nil (star_nice na)) hn b.db (star_nice na) rfl) hs
theorem sound_call2 {p : Pr} {id : String} {y : Str} {r : List V → Hp → VK → Prop} (C : Cok X c Γ W) (hc : CallR X (.builtin id) r) (hs : PSim X r p.w) (hv : bootBuiltins y = some (.builtin id)) (hn : y ≠ "__name__") (h : shCall2 c X.env.scope y e = some es) (pe : PEs X es (ops X.K X.mg Γ W as)) : PE X e (TX X.K X.mg Γ W (.pr p as)) := by
  obtain ⟨f, a, b', q, q2, rfl, rfl, b⟩ := shCall2_of C h
  obtain ⟨ta, tb, et, ha, hb, na, nb⟩ := pe.two
  obtain rfl := b.e
  exact pe_pr (r := r) (by rw [et]; exact pe_callB hc b.gl b.no hv (pa_cons ha (pa_cons hb pa_nil (star_nice nb)) (star_nice na)) hn b.db (star_nice na) (plain_back fun z hz => by rw [List.mem_singleton] at hz; subst hz; exact nb)) hs

/-! ### isinstance of a built-in class -/
def tyN : D → String
  | .non => "NoneType"
  | .bl _ => "bool"
  | .int _ => "int"
  | .str _ => "str"
  | .tup _ => "tuple"
  | .lst _ => "list"
  | .scr _ => "list"
  | .ins _ _ _ => "?"
theorem tyx_of {H : Hp} {Own : Addr → Prop} {d : D} {v : V} (h : RepO X.K X.mg H Own d v) (n : isIns d = false) : TyX X.K H v (.type (tyN d)) := by
  cases d with
  | non => rw [h.non]; exact .base .non
  | bl b => rw [h.bl]; exact .base (.bl b)
  | int i => rw [h.int]; exact .base (.int i)
  | str x => rw [h.str]; exact .base (.str x)
  | tup ds =>
    obtain ⟨a, vs, rfl, q, _⟩ := h.tup
    rcases q with (q | ⟨o, q⟩) | ⟨o, its, m, k, ec, _⟩
    · exact .base (.tup q)
    · exact .fTuple q
    · exact .kTuple k ec
  | lst ds =>
    obtain ⟨a, vs, rfl, q, _⟩ := h.lst
    exact .base (.lst q)
  | scr ds => cases n
  | ins _ _ _ => cases n
theorem kt {K : PySem.W.Frag} (a b : String) (r : Bool) (h : kitB a b = some r) : PySem.W.kitOne K (.type a) (.type b) = some r := kit_ty h
theorem kit_tp {K : PySem.W.Frag} {d : D} (n : isIns d = false) : ∀ {t : Tp}, (match t with | .cls _ => False | _ => True) → PySem.W.kitOne K (.type (tyN d)) (.type (tpName t)) = some (isTp t d) := by
  intro t ht
  cases t with
  | cls x => exact ht.elim
  | int =>
    cases d with
    | non => exact kt "NoneType" "int" false (by decide +kernel)
    | bl _ => exact kt "bool" "int" true (by decide +kernel)
    | int _ => exact kt "int" "int" true (by decide +kernel)
    | str _ => exact kt "str" "int" false (by decide +kernel)
    | tup _ => exact kt "tuple" "int" false (by decide +kernel)
    | lst _ => exact kt "list" "int" false (by decide +kernel)
    | scr ds => cases n
    | ins _ _ _ => cases n
  | bool =>
    cases d with
    | non => exact kt "NoneType" "bool" false (by decide +kernel)
    | bl _ => exact kt "bool" "bool" true (by decide +kernel)
    | int _ => exact kt "int" "bool" false (by decide +kernel)
    | str _ => exact kt "str" "bool" false (by decide +kernel)
    | tup _ => exact kt "tuple" "bool" false (by decide +kernel)
    | lst _ => exact kt "list" "bool" false (by decide +kernel)
    | scr ds => cases n
    | ins _ _ _ => cases n
  | str =>
    cases d with
    | non => exact kt "NoneType" "str" false (by decide +kernel)
    | bl _ => exact kt "bool" "str" false (by decide +kernel)
    | int _ => exact kt "int" "str" false (by decide +kernel)
    | str _ => exact kt "str" "str" true (by decide +kernel)
    | tup _ => exact kt "tuple" "str" false (by decide +kernel)
    | lst _ => exact kt "list" "str" false (by decide +kernel)
    | scr ds => cases n
    | ins _ _ _ => cases n
  | tuple =>
    cases d with
    | non => exact kt "NoneType" "tuple" false (by decide +kernel)
    | bl _ => exact kt "bool" "tuple" false (by decide +kernel)
    | int _ => exact kt "int" "tuple" false (by decide +kernel)
    | str _ => exact kt "str" "tuple" false (by decide +kernel)
    | tup _ => exact kt "tuple" "tuple" true (by decide +kernel)
    | lst _ => exact kt "list" "tuple" false (by decide +kernel)
    | scr ds => cases n
    | ins _ _ _ => cases n
  | list =>
    cases d with
    | non => exact kt "NoneType" "list" false (by decide +kernel)
    | bl _ => exact kt "bool" "list" false (by decide +kernel)
    | int _ => exact kt "int" "list" false (by decide +kernel)
    | str _ => exact kt "str" "list" false (by decide +kernel)
    | tup _ => exact kt "tuple" "list" false (by decide +kernel)
    | lst _ => exact kt "list" "list" true (by decide +kernel)
    | scr ds => cases n
    | ins _ _ _ => cases n
def rIsiT' (K : PySem.W.Frag) (t : Tp) : List V → Hp → VK → Prop := fun vs H Q => match vs with
  | [x] => rIsi K [x, .ty (tpName t)] H Q
  | _ => False
theorem sim_isi {t : Tp} : PSim X (rIsiT' X.K t) (pIsi t) := .pure fun H Own ds vs Q R ok rp hw k => by
  unfold pIsi at hw
  split at hw
  · rename_i a
    obtain ⟨v, rfl, h1⟩ := rp.one
    obtain ⟨ht, hi, q⟩ := hw
    exact ⟨v, .ty (tpName t), .type (tyN a), .type (tpName t), isTp t a, rfl, .ty _, tyx_of h1 hi, kit_tp hi ht, k (.bl _) _ (by simp only [Rep]) q⟩
  · exact hw.elim
theorem biTp_ok (C : Cok X c Γ W) {t : Tp} {g : Str} {p : Pos} (h : biTp c X.env.scope t g = true) : PE X (.Name g p) (tC (.ty (tpName t))) := by
  cases t with
  | cls _ => cases h
  | int =>
    have b := bi_ok C h
    obtain rfl := b.e
    exact pe_bltn b.gl b.no PyProof.Rows.boot_int rfl (by decide) b.db
  | bool =>
    have b := bi_ok C h
    obtain rfl := b.e
    exact pe_bltn b.gl b.no (u := .type "bool") (by decide +kernel) rfl (by decide) b.db
  | str =>
    have b := bi_ok C h
    obtain rfl := b.e
    exact pe_bltn b.gl b.no (u := .type "str") (by decide +kernel) rfl (by decide) b.db
  | tuple =>
    have b := bi_ok C h
    obtain rfl := b.e
    exact pe_bltn b.gl b.no PyProof.Rows.boot_tuple rfl (by decide) b.db
  | list =>
    have b := bi_ok C h
    obtain rfl := b.e
    exact pe_bltn b.gl b.no PyProof.Rows.boot_list rfl (by decide) b.db
theorem sound_isi (C : Cok X c Γ W) {t : Tp} (h : shIsi c X.env.scope t e = some es) (pe : PEs X es (ops X.K X.mg Γ W as)) : PE X e (TX X.K X.mg Γ W (.pr (.isi t) as)) := by
  unfold shIsi at h
  split at h
  · rename_i f p a g q q2
    split at h
    · rename_i hb
      cases h
      rw [Bool.and_eq_true] at hb
      have b := bi_ok C hb.1
      have hg := biTp_ok C (p := q) hb.2
      obtain ⟨ta, et, ha, na⟩ := pe.one
      obtain rfl := b.e
      exact pe_pr (r := rIsiT' X.K t) (by rw [et]; exact pe_callB call_isi b.gl b.no PyProof.Rows.boot_isinstance (pa_cons ha (pa_cons hg pa_nil (star_nice rfl)) (star_nice na)) (by decide) b.db (star_nice na) rfl) sim_isi
    · cases h
  · cases h
theorem plainIx_of {b : Expr} (h : nice b = true) : PlainIx b := by
  intro o i
  cases b <;> first
    | rfl
    | (cases h)
theorem sound_ix (h : shIx e = some es) (pe : PEs X es (ops X.K X.mg Γ W as)) : PE X e (TX X.K X.mg Γ W (.pr .ix as)) := by
  unfold shIx at h
  split at h
  · rename_i a b p
    cases h
    obtain ⟨ta, tb, et, ha, hb, _, nb⟩ := pe.two
    exact pe_pr (r := r2 fun x y H Q => rIxL X.K x y H Q ∨ rIxT X.K x y H Q) (by rw [et]; exact pe_ix (ix_list.or ix_tup) ha hb (plainIx_of nb)) sim_ix
  · cases h
theorem sound_slc {lo hi : Bool} (h : shSlc lo hi e = some es) (pe : PEs X es (ops X.K X.mg Γ W as)) : PE X e (TX X.K X.mg Γ W (.pr (.slc lo hi) as)) := by
  unfold shSlc at h
  split at h
  · rename_i a l u p q
    split at h
    · cases h
      obtain ⟨ta, tb, et, ha, hb, _⟩ := pe.two
      exact pe_pr (r := rSlc X.K true false) (by rw [et]; exact pe_slice sl_B ha (po_some hb) po_none) sim_slc
    · cases h
      obtain ⟨ta, tb, et, ha, hb, _⟩ := pe.two
      exact pe_pr (r := rSlc X.K false true) (by rw [et]; exact pe_slice sl_B ha po_none (po_some hb)) sim_slc
    · cases h
      obtain ⟨ta, et, ha, _⟩ := pe.one
      exact pe_pr (r := rSlc X.K false false) (by rw [et]; exact pe_slice sl_B ha po_none po_none) sim_slc
    · cases h
  · cases h
end
end
end Pd

set_option Elab.async false
set_option linter.all false
set_option maxRecDepth 100000
/-! PyD, part 6: calls of defs; walked things; targets. -/
namespace Pd
open PySem PySem.Spec L2

def pks : As → List Nat
  | .nil => []
  | .e _ r => pks r
  | .pk i r => i :: pks r
/-- the place of a lent slot among the arguments -/
def pkAt : As → Nat → Option Nat
  | .nil, _ => none
  | .e _ r, j => (pkAt r j).map (· + 1)
  | .pk i r, j => if j = i then some 0 else (pkAt r j).map (· + 1)
def CArgs (K : PySem.W.Frag) (mg : Str → Option Value) (H : Hp) (Own : Addr → Prop) (σ : L2.St) (env : Env) : As → List Sl → List V → Prop
  | .nil, ss, vs => ss = [] ∧ vs = []
  | .e _ r, ss, vs => ∃ d v ss' vs', ss = .val d :: ss' ∧ vs = v :: vs' ∧ Rep K mg H Own d v ∧ CArgs K mg H Own σ env r ss' vs'
  | .pk i r, ss, vs => ∃ xs v ss' vs', ss = .own xs :: ss' ∧ vs = v :: vs' ∧ getS env i = .own xs ∧ σ[i]? = some (some v) ∧ CArgs K mg H Own σ env r ss' vs'
section
variable {K : PySem.W.Frag} {mg : Str → Option Value} {Γ : Gam} {W : WX} {Fo : Fgn} {fx : List (Nat × Addr)} {σ : L2.St} {H H' : Hp} {Own Own' : Addr → Prop} {env : Env}
theorem call_nest : ∀ (as : As) {H : Hp} {Own : Addr → Prop} {env : Env} {Q : List Sl → Env → Prop} {E : Exn → Env → Prop} {k : List V → Hp → Prop}, SOk K mg Fo fx σ H Own env → wpC Γ as env Q E →
    (∀ vs H' Own' env' ss, SOk K mg Fo fx σ H' Own' env' → Le H Own H' Own' → CArgs K mg H' Own' σ env' as ss vs → Q ss env' → k vs H') → Ke K mg W Fo fx σ H Own E → nest (ops K mg Γ W as) σ H k
  | .nil, H, Own, env, Q, E, k, S, hw, ok, ke => by
    simp only [wpC] at hw
    exact ok [] H Own env [] S Le.refl ⟨rfl, rfl⟩ hw
  | .e a r, H, Own, env, Q, E, k, S, hw, ok, ke => by
    simp only [wpC] at hw
    refine ⟨Fo, fx, Own, env, _, E, S, hw, fun v H1 Own1 env1 d S1 l1 rd hr => ?_, ke⟩
    exact call_nest r S1 hr (fun vs H2 Own2 env2 ds S2 l2 rds q => ok (v :: vs) H2 Own2 env2 (.val d :: ds) S2 (l1.trans l2) ⟨d, v, ds, vs, rfl, rfl, Rep.le l2 S1.ok d v rd, rds⟩ q) (ke.le l1)
  | .pk i r, H, Own, env, Q, E, k, S, hw, ok, ke => by
    simp only [wpC] at hw
    obtain ⟨⟨xs0, e0⟩, hw⟩ := hw
    obtain ⟨a, us, ev, _⟩ := S.own e0
    refine ⟨.ref a, ev, ?_⟩
    refine call_nest r S hw (fun vs H2 Own2 env2 ds S2 l2 rds q => ?_) ke
    obtain ⟨xs, e, q⟩ := q
    exact ok (.ref a :: vs) H2 Own2 env2 (.own xs :: ds) S2 l2 ⟨xs, .ref a, ds, vs, rfl, rfl, e, ev, rds⟩ q
theorem CArgs.len : ∀ {as : As} {ss : List Sl} {vs : List V}, CArgs K mg H Own σ env as ss vs → ss.length = vs.length
  | .nil, _, _, h => by obtain ⟨rfl, rfl⟩ := h; rfl
  | .e _ r, _, _, h => by obtain ⟨d, v, ss', vs', rfl, rfl, _, t⟩ := h; simp [CArgs.len t]
  | .pk i r, _, _, h => by obtain ⟨d, v, ss', vs', rfl, rfl, _, _, t⟩ := h; simp [CArgs.len t]
theorem CArgs.slot (S : SOk K mg Fo fx σ H Own env) : ∀ {as : As} {ss : List Sl} {vs : List V} (k : Nat), CArgs K mg H Own σ env as ss vs → SlOk K mg H Own (vs.map some) k (getS ss k) ∧ (k < ss.length → getS ss k ≠ .un)
  | .nil, _, _, k, h => by obtain ⟨rfl, rfl⟩ := h; exact ⟨trivial, fun z => by simp at z⟩
  | .e _ r, _, _, 0, h => by obtain ⟨d, v, ss', vs', rfl, rfl, rd, t⟩ := h; exact ⟨⟨v, rfl, rd⟩, fun _ z => by cases z⟩
  | .e _ r, _, _, k + 1, h => by
    obtain ⟨d, v, ss', vs', rfl, rfl, rd, t⟩ := h
    obtain ⟨h1, h2⟩ := CArgs.slot S k t
    refine ⟨?_, fun z => h2 (by simpa using z)⟩
    show SlOk K mg H Own _ (k + 1) (getS ss' k)
    revert h1
    cases getS ss' k with
    | un => intro _; trivial
    | val e => rintro ⟨w, e1, e2⟩; exact ⟨w, by simpa using e1, e2⟩
    | own es => rintro ⟨a, us, e1, e2⟩; exact ⟨a, us, by simpa using e1, e2⟩
  | .pk i r, _, _, 0, h => by
    obtain ⟨xs, v, ss', vs', rfl, rfl, g, e, t⟩ := h
    obtain ⟨a, us, e1, e2, e3, e4⟩ := S.own g
    have : v = .ref a := by rw [e] at e1; cases e1; rfl
    subst this
    exact ⟨⟨a, us, rfl, e2, e3, e4⟩, fun _ z => by cases z⟩
  | .pk i r, _, _, k + 1, h => by
    obtain ⟨xs, v, ss', vs', rfl, rfl, g, e, t⟩ := h
    obtain ⟨h1, h2⟩ := CArgs.slot S k t
    refine ⟨?_, fun z => h2 (by simpa using z)⟩
    show SlOk K mg H Own _ (k + 1) (getS ss' k)
    revert h1
    cases getS ss' k with
    | un => intro _; trivial
    | val e => rintro ⟨w, e1, e2⟩; exact ⟨w, by simpa using e1, e2⟩
    | own es => rintro ⟨a, us, e1, e2⟩; exact ⟨a, us, by simpa using e1, e2⟩
theorem pkAt_mem : ∀ {as : As} {i k : Nat}, pkAt as i = some k → i ∈ pks as
  | .nil, i, k, z => by cases z
  | .e a r, i, k, z => by
    unfold pkAt at z
    obtain ⟨m, e1, _⟩ := Option.map_eq_some_iff.mp z
    exact pkAt_mem (as := r) e1
  | .pk j r, i, k, z => by
    unfold pkAt at z
    split at z
    · rename_i q; rw [q]; exact List.mem_cons_self
    · obtain ⟨m, e1, _⟩ := Option.map_eq_some_iff.mp z
      exact List.mem_cons_of_mem _ (pkAt_mem (as := r) e1)
/-- a lent place: its slot -/
theorem CArgs.lent : ∀ {as : As} {ss : List Sl} {vs : List V} (k : Nat), (pks as).Nodup → CArgs K mg H Own σ env as ss vs → isOwn (getS ss k) →
    ∃ i v, pkAt as i = some k ∧ getS env i = getS ss k ∧ σ[i]? = some (some v) ∧ vs[k]? = some v
  | .nil, _, _, k, _, h, o => by obtain ⟨rfl, rfl⟩ := h; exact o.elim
  | .e _ r, _, _, 0, _, h, o => by obtain ⟨d, v, ss', vs', rfl, rfl, rd, t⟩ := h; exact o.elim
  | .e _ r, _, _, k + 1, nd, h, o => by
    obtain ⟨d, v, ss', vs', rfl, rfl, rd, t⟩ := h
    obtain ⟨i, w, h1, h2, h3, h4⟩ := CArgs.lent (as := r) k (by simpa [pks] using nd) t o
    exact ⟨i, w, by simp [pkAt, h1], h2, h3, by simpa using h4⟩
  | .pk j r, _, _, 0, _, h, o => by
    obtain ⟨xs, v, ss', vs', rfl, rfl, g, e, t⟩ := h
    exact ⟨j, v, by simp [pkAt], g, e, rfl⟩
  | .pk j r, _, _, k + 1, nd, h, o => by
    obtain ⟨xs, v, ss', vs', rfl, rfl, g, e, t⟩ := h
    have nd' : j ∉ pks r ∧ (pks r).Nodup := by simpa [pks] using nd
    obtain ⟨i, w, h1, h2, h3, h4⟩ := CArgs.lent (as := r) k nd'.2 t o
    refine ⟨i, w, ?_, h2, h3, by simpa using h4⟩
    have ne : i ≠ j := fun z => nd'.1 (z ▸ pkAt_mem h1)
    simp [pkAt, ne, h1]
theorem CArgs.at : ∀ {as : As} {ss : List Sl} {vs : List V} {i k : Nat}, CArgs K mg H Own σ env as ss vs → pkAt as i = some k → ∃ v, σ[i]? = some (some v) ∧ vs[k]? = some v ∧ getS env i = getS ss k ∧ isOwn (getS env i) ∧ k < vs.length
  | .nil, _, _, _, _, h, z => by cases z
  | .e _ r, _, _, i, k, h, z => by
    obtain ⟨d, v, ss', vs', rfl, rfl, rd, t⟩ := h
    unfold pkAt at z
    obtain ⟨m, e1, e2⟩ := Option.map_eq_some_iff.mp z
    subst e2
    obtain ⟨w, q1, q2, q3, q4, q5⟩ := CArgs.at t e1
    exact ⟨w, q1, by simpa using q2, q3, q4, by simpa using q5⟩
  | .pk j r, _, _, i, k, h, z => by
    obtain ⟨xs, v, ss', vs', rfl, rfl, g, e, t⟩ := h
    unfold pkAt at z
    split at z
    · rename_i q
      cases z; subst q
      exact ⟨v, e, rfl, g, by rw [g]; trivial, by simp⟩
    · obtain ⟨m, e1, e2⟩ := Option.map_eq_some_iff.mp z
      subst e2
      obtain ⟨w, q1, q2, q3, q4, q5⟩ := CArgs.at t e1
      exact ⟨w, q1, by simpa using q2, q3, q4, by simpa using q5⟩
theorem pkAt_inj : ∀ {as : As} {i j k : Nat}, pkAt as i = some k → pkAt as j = some k → i = j
  | .nil, _, _, _, z, _ => by cases z
  | .e _ r, i, j, k, z, z2 => by
    unfold pkAt at z z2
    obtain ⟨m, e1, e2⟩ := Option.map_eq_some_iff.mp z
    obtain ⟨m2, e3, e4⟩ := Option.map_eq_some_iff.mp z2
    have : m = m2 := by omega
    subst this
    exact pkAt_inj e1 e3
  | .pk l r, i, j, k, z, z2 => by
    unfold pkAt at z z2
    split at z
    · rename_i q
      cases z
      split at z2
      · rename_i q2; rw [q, q2]
      · obtain ⟨m2, e3, e4⟩ := Option.map_eq_some_iff.mp z2
        omega
    · obtain ⟨m, e1, e2⟩ := Option.map_eq_some_iff.mp z
      split at z2
      · cases z2; omega
      · obtain ⟨m2, e3, e4⟩ := Option.map_eq_some_iff.mp z2
        have : m = m2 := by omega
        subst this
        exact pkAt_inj e1 e3
theorem length_outS : ∀ {as : As} {os : List Sl} {env : Env}, (outS as os env).length = env.length
  | .nil, _, _ => by simp [outS]
  | .e _ r, [], _ => by simp [outS]
  | .e _ r, _ :: os, _ => by simp only [outS]; exact length_outS
  | .pk i r, [], _ => by simp [outS]
  | .pk i r, o :: os, env => by simp only [outS]; rw [length_outS, length_setS]
theorem outS_none : ∀ {as : As} {os : List Sl} {env : Env} {j : Nat}, pkAt as j = none → getS (outS as os env) j = getS env j
  | .nil, _, _, _, _ => by simp [outS]
  | .e _ r, [], _, _, _ => by simp [outS]
  | .e _ r, _ :: os, _, j, h => by
    simp only [outS]
    exact outS_none (by simpa [pkAt] using h)
  | .pk i r, [], _, _, _ => by simp [outS]
  | .pk i r, o :: os, env, j, h => by
    simp only [outS]
    unfold pkAt at h
    split at h
    · cases h
    · rename_i ne
      rw [outS_none (by simpa using h), getS_setS_ne ne]
theorem outS_some : ∀ {as : As} {os : List Sl} {env : Env} {j k : Nat}, (pks as).Nodup → j < env.length → k < os.length → pkAt as j = some k → getS (outS as os env) j = getS os k
  | .nil, _, _, _, _, _, _, _, h => by cases h
  | .e _ r, [], _, _, _, _, _, hk, _ => by simp at hk
  | .e _ r, _ :: os, _, j, k, nd, hj, hk, h => by
    simp only [outS]
    unfold pkAt at h
    obtain ⟨m, e1, e2⟩ := Option.map_eq_some_iff.mp h
    subst e2
    exact outS_some nd hj (by simpa using hk) e1
  | .pk i r, [], _, _, _, _, _, hk, _ => by simp at hk
  | .pk i r, o :: os, env, j, k, nd, hj, hk, h => by
    have nd' : i ∉ pks r ∧ (pks r).Nodup := by simpa [pks] using nd
    simp only [outS]
    unfold pkAt at h
    split at h
    · rename_i q
      cases h; subst q
      have hn : pkAt r j = none := by
        cases q : pkAt r j with
        | none => rfl
        | some m => exact absurd (pkAt_mem q) nd'.1
      rw [outS_none hn, getS_setS_same hj]; rfl
    · obtain ⟨m, e1, e2⟩ := Option.map_eq_some_iff.mp h
      subst e2
      exact outS_some nd'.2 (by rw [length_setS]; exact hj) (by simpa using hk) e1

/-- the lists that a callee must leave -/
def FoC (H : Hp) (Own : Addr → Prop) (ss : List Sl) (vs : List V) : Fgn := fun a o => Own a ∧ H a = some o ∧ ∀ k, isOwn (getS ss k) → vs[k]? ≠ some (.ref a)
/-- at a call: the callee's view -/
theorem SOk.callee (S : SOk K mg Fo fx σ H Own env) {as : As} {ss : List Sl} {vs : List V} (nd : (pks as).Nodup) (A : CArgs K mg H Own σ env as ss vs) : SOk K mg (FoC H Own ss vs) [] (vs.map some) H Own ss where
  len := by rw [List.length_map]; exact A.len
  ok := S.ok
  at_ := fun k => (A.slot S k).1
  dis := fun i j a hij oi oj e e2 => by
    obtain ⟨p, v, p1, p2, p3, p4⟩ := A.lent i nd oi
    obtain ⟨q, w, q1, q2, q3, q4⟩ := A.lent j nd oj
    rw [List.getElem?_map, p4] at e
    rw [List.getElem?_map, q4] at e2
    have ev : v = .ref a := by simpa using e
    have ew : w = .ref a := by simpa using e2
    subst ev ew
    have ne : p ≠ q := fun z => by
      subst z
      rw [p1] at q1
      exact hij (Option.some.inj q1)
    exact S.dis p q a ne (by rw [p2]; exact oi) (by rw [q2]; exact oj) p3 q3
  fo := fun a o f => ⟨f.1, f.2.1, fun i oi e => f.2.2 i oi (by
    rw [List.getElem?_map] at e
    cases q : vs[i]? with
    | none => rw [q] at e; cases e
    | some v => rw [q] at e; simpa using e)⟩
  fx := fun p hp => by cases hp
/-- behind it: the caller's -/
theorem SOk.caller (S : SOk K mg Fo fx σ H Own env) {as : As} {ss os : List Sl} {vs : List V} (nd : (pks as).Nodup) (A : CArgs K mg H Own σ env as ss vs) (S' : SOk K mg (FoC H Own ss vs) [] (vs.map some) H' Own' os)
    (l : Le H Own H' Own') (oo : ∀ i, isOwn (getS os i) → isOwn (getS ss i)) : SOk K mg Fo fx σ H' Own' (outS as os env) := by
  have hl : os.length = vs.length := by rw [S'.len, List.length_map]
  -- an own slot was one ahead of the call
  have back : ∀ j, isOwn (getS (outS as os env) j) → isOwn (getS env j) := fun j hj => by
    cases q : pkAt as j with
    | none => rw [outS_none q] at hj; exact hj
    | some k =>
      obtain ⟨v, _, _, _, q4, _⟩ := A.at q
      exact q4
  refine ⟨by rw [length_outS]; exact S.len, S'.ok, fun j => ?_, fun i j a hij oi oj => S.dis i j a hij (back i oi) (back j oj), fun a o f => ?_, S.fx⟩
  · cases q : pkAt as j with
    | some k =>
      obtain ⟨v, q1, q2, q3, q4, q5⟩ := A.at q
      have hj : j < env.length := getS_lt (fun z => by rw [z] at q4; exact q4)
      rw [outS_some nd hj (by rw [hl]; exact q5) q]
      have := S'.at_ k
      revert this
      cases getS os k with
      | un => intro _; trivial
      | val d =>
        rintro ⟨w, e1, e2⟩
        rw [List.getElem?_map, q2] at e1
        have : v = w := by simpa using e1
        subst this
        exact ⟨v, q1, e2⟩
      | own es =>
        rintro ⟨a, us, e1, e2⟩
        rw [List.getElem?_map, q2] at e1
        have : v = .ref a := by simpa using e1
        subst this
        exact ⟨a, us, q1, e2⟩
    | none =>
      rw [outS_none q]
      have := S.at_ j
      have hd := S.dis j
      revert this hd
      cases hs : getS env j with
      | un => intro _ _; trivial
      | val d => rintro ⟨w, e1, e2⟩ _; exact ⟨w, e1, Rep.le l S.ok d w e2⟩
      | own es =>
        rintro ⟨a, us, e1, e2, e3, e4⟩ hd
        have f : FoC H Own ss vs a (.lst us) := ⟨e2, e3, fun k hk z => by
          obtain ⟨i, v, p1, p2, p3, p4⟩ := A.lent k nd hk
          rw [z] at p4
          cases p4
          have ne : j ≠ i := fun z => by subst z; rw [q] at p1; cases p1
          exact hd i a ne trivial (by rw [p2]; exact hk) e1 p3⟩
        obtain ⟨f1, f2, _⟩ := S'.fo a _ f
        exact ⟨a, us, e1, f1, f2, Reps.le l S.ok es us e4⟩
  · obtain ⟨h1, h2, h3⟩ := S.fo a o f
    have f' : FoC H Own ss vs a o := ⟨h1, h2, fun k hk z => by
      obtain ⟨i, v, p1, p2, p3, p4⟩ := A.lent k nd hk
      rw [z] at p4
      cases p4
      exact h3 i (by rw [p2]; exact hk) p3⟩
    obtain ⟨f1, f2, _⟩ := S'.fo a o f'
    exact ⟨f1, f2, fun i hi => h3 i (back i hi)⟩
end

section
variable {X : Cx} {c : Ck} {Γ : Gam} {W : WX}
theorem gam_at {x : Str} {n : Nat} {sp : DSp} : ∀ {Γ : Gam} {f : Nat}, Γ[f]? = some (x, n, sp) → gam Γ f = sp
  | [], _, h => by simp at h
  | y :: r, 0, h => by simp at h; subst h; rfl
  | y :: r, f + 1, h => gam_at (Γ := r) (by simpa using h)
theorem PEs.length {es : List Expr} {ts : List TE} (h : PEs X es ts) : es.length = ts.length := by
  induction h with
  | nil => rfl
  | cons _ _ _ ih => simp [ih]
theorem CArgs.ops {K : PySem.W.Frag} {mg : Str → Option Value} {H : Hp} {Own : Addr → Prop} {σ : L2.St} {env : Env} : ∀ {as : As} {ss : List Sl} {vs : List V}, CArgs K mg H Own σ env as ss vs → vs.length = (Pd.ops K mg Γ W as).length
  | .nil, _, _, h => by obtain ⟨rfl, rfl⟩ := h; rfl
  | .e _ r, _, _, h => by obtain ⟨d, v, ss', vs', rfl, rfl, _, t⟩ := h; simp [Pd.ops, CArgs.ops t]
  | .pk i r, _, _, h => by obtain ⟨d, v, ss', vs', rfl, rfl, _, _, t⟩ := h; simp [Pd.ops, CArgs.ops t]
/-- a call of a def -/
theorem retOk_caller {K : PySem.W.Frag} {mg : Str → Option Value} {Fo : Fgn} {fx : List (Nat × Addr)} {σ : L2.St} {H H' : Hp} {Own Own' : Addr → Prop} {env : Env} (S : SOk K mg Fo fx σ H Own env) {as : As} {ss os : List Sl} {vs : List V} (nd : (pks as).Nodup) (A : CArgs K mg H Own σ env as ss vs) (S' : SOk K mg (FoC H Own ss vs) [] (vs.map some) H' Own' os)
    {r : Rv} {v : V} (h : RetOk K mg (FoC H Own ss vs) (vs.map some) H' Own' os r v) : RetOk K mg Fo σ H' Own' (outS as os env) r v := by
  have hl : os.length = vs.length := by rw [S'.len, List.length_map]
  cases r with
  | v d => exact h
  | fr ds =>
    obtain ⟨p, ws, rfl, h1, h2, h3, h4, h5⟩ := h
    refine ⟨p, ws, rfl, h1, h2, h3, fun j hj e => ?_, fun o f => ?_⟩
    · cases q : pkAt as j with
      | none =>
        rw [outS_none q] at hj
        cases hs : getS env j with
        | un => rw [hs] at hj; exact hj
        | val d => rw [hs] at hj; exact hj
        | own es =>
          obtain ⟨a, us, e1, e2, e3, e4⟩ := S.own hs
          rw [e] at e1; cases e1
          refine h5 (.lst us) ⟨e2, e3, fun k hk z => ?_⟩
          obtain ⟨i, v, p1, p2, p3, p4⟩ := A.lent k nd hk
          rw [z] at p4
          cases p4
          have ne : j ≠ i := fun z => by subst z; rw [q] at p1; cases p1
          exact S.dis j i _ ne (by rw [hs]; trivial) (by rw [p2]; exact hk) e p3
      | some k =>
        obtain ⟨v, q1, q2, q3, q4, q5⟩ := A.at q
        have hj' : j < env.length := getS_lt (fun z => by rw [z] at q4; exact q4)
        rw [outS_some nd hj' (by rw [hl]; exact q5) q] at hj
        rw [e] at q1
        have : v = .ref p := by simpa using q1.symm
        subst this
        exact h4 k hj (by rw [List.getElem?_map, q2]; rfl)
    · obtain ⟨g1, g2, g3⟩ := S.fo p o f
      exact h5 o ⟨g1, g2, fun k hk z => by
        obtain ⟨i, v, p1, p2, p3, p4⟩ := A.lent k nd hk
        rw [z] at p4
        cases p4
        exact g3 i (by rw [p2]; exact hk) p3⟩
/-- a call, what it gives as it is -/
def TCall (K : PySem.W.Frag) (mg : Str → Option Value) (Γ : Gam) (W : WX) (f : Nat) (as : As) : TE := fun σ H R => ∃ (Fo : Fgn) (fx : List (Nat × Addr)) (Own : Addr → Prop) (env : Env) (Q : Rv → Env → Prop) (E : Exn → Env → Prop), SOk K mg Fo fx σ H Own env ∧
  wpC Γ as env (fun ss env' => gam Γ f ss (fun r os => Q r (outS as os env')) fun x os => E x (outS as os env')) E ∧
  (∀ v H' Own' env' r, SOk K mg Fo fx σ H' Own' env' → Le H Own H' Own' → RetOk K mg Fo σ H' Own' env' r v → Q r env' → R v H') ∧ Ke K mg W Fo fx σ H Own E
theorem call_core (C : Cok X c Γ W) {f : Nat} {as : As} {x : Str} {p pos : Pos} {e : Expr} {es : List Expr} (hf : c.Gn[f]? = some (x, (e :: es).length)) (hg : okGl X.env.scope x = true) (nd : (pks as).Nodup)
    (pe : PEs X (e :: es) (ops X.K X.mg Γ W as)) : PE X (.Call (.Name x p) (e :: es) [] pos) (TCall X.K X.mg Γ W f as) := by
  obtain ⟨g1, g2⟩ := okGl_gl hg
  obtain ⟨sp, hsp⟩ : ∃ sp, Γ[f]? = some (x, (e :: es).length, sp) := by
    rw [C.gn, List.getElem?_map] at hf
    obtain ⟨y, e1, e2⟩ := Option.map_eq_some_iff.mp hf
    obtain ⟨y1, y2, y3⟩ := y
    cases e2
    exact ⟨y3, e1⟩
  obtain ⟨k, fa, fd, ps, hl, F, hr, hm, hk, hb⟩ := C.fns f x _ sp hsp
  have nic := pe.nice
  refine PE.imp (pe_callSD (E := WE W) F hr g1 hm hk hb .nil (fun σ => passAt C.tk σ) pe.pa g2 (star_nice (nic e List.mem_cons_self)) (plain_back fun z hz => nic z (List.mem_cons_of_mem _ hz))) fun σ H R hx => ?_
  obtain ⟨Fo, fx, Own, env, Q, E, S, hw, ok, ke⟩ := hx
  rw [gam_at hsp] at hw
  show nest (ops X.K X.mg Γ W as) σ H fun vs H1 => spOf X.K X.mg (e :: es).length sp (vs ++ []) H1 R (WE W σ)
  refine call_nest as S hw (fun vs H1 Own1 env1 ss S1 l1 A q => ?_) ke
  rw [List.append_nil]
  have hvl : vs.length = (e :: es).length := by rw [pe.length]; exact A.ops
  refine ⟨FoC H1 Own1 ss vs, Own1, ss, _, _, hvl, S1.callee nd A, fun i hi => (A.slot S1 i).2 (by rw [A.len, hvl]; exact hi), q, fun v H2 Own2 r os S2 oo l2 rd hq => ?_, fun cls dd H2 Own2 os y S2 oo l2 xr hq => ?_⟩
  · exact ok v H2 Own2 _ r (S1.caller nd A S2 l2 oo) (l1.trans l2) (retOk_caller S1 nd A S2 rd) hq
  · exact ke cls dd H2 Own2 _ y (S1.caller nd A S2 l2 oo) (l1.trans l2) xr hq
theorem sound_call (C : Cok X c Γ W) {f : Nat} {as : As} {x : Str} {p pos : Pos} {e : Expr} {es : List Expr} (hf : c.Gn[f]? = some (x, (e :: es).length)) (hg : okGl X.env.scope x = true) (nd : (pks as).Nodup)
    (pe : PEs X (e :: es) (ops X.K X.mg Γ W as)) : PE X (.Call (.Name x p) (e :: es) [] pos) (TX X.K X.mg Γ W (.call f as)) := by
  refine PE.imp (call_core C hf hg nd pe) fun σ H R hx => ?_
  obtain ⟨Fo, fx, Own, env, Q, E, S, hw, ok, ke⟩ := hx
  simp only [wpE] at hw
  refine ⟨Fo, fx, Own, env, fun r env' => Q r.d env', E, S, hw, fun v H' Own' env' r S' l' ro hq => ?_, ke⟩
  cases r with
  | v d => exact ok v H' Own' env' d S' l' ro hq
  | fr ds =>
    obtain ⟨p, ws, rfl, h1, h2, h3, h4, h5⟩ := ro
    obtain ⟨S2, l2⟩ := S'.drop h4 h5
    exact ok (.ref p) H' _ env' (.lst ds) S2 (l'.trans l2) (Rep.lst_of (fun z => z.2 rfl) h2 (Reps.le l2 S'.ok ds ws h3)) hq
end
end Pd

set_option Elab.async false
set_option linter.all false
set_option maxRecDepth 100000
/-! PyD, part 7: targets, walked things, comprehensions. -/
namespace Pd
open PySem PySem.Spec L2

def tgs : Tg → List Nat
  | .nm i => [i]
  | .tp is => is
def gNames : List Nat → TGs
  | [] => gNil
  | i :: is => gCons (gName i) (gNames is)
def gTg (K : PySem.W.Frag) : Tg → TG
  | .nm i => gName i
  | .tp is => gTup K is.length (gNames is)
def okNms (c : Ck) (P : Str → Bool) : List Nat → List Expr → Bool
  | [], [] => true
  | i :: is, .Name x _ :: es => decide (c.N[i]? = some x) && P x && okNms c P is es
  | _, _ => false
def okTg (c : Ck) (P : Str → Bool) : Tg → Expr → Bool
  | .nm i, .Name x _ => decide (c.N[i]? = some x) && P x
  | .tp is, .Tuple es _ _ => okNms c P is es
  | _, _ => false
def locB (sc : Scope) (x : Str) : Bool := match sc.names.lookup x with
  | some .local => true
  | some .cell => true
  | _ => false

section
variable {K : PySem.W.Frag} {mg : Str → Option Value} {Fo : Fgn} {fx : List (Nat × Addr)} {σ : L2.St} {H H' : Hp} {Own Own' : Addr → Prop} {env : Env}
theorem setS_ge : ∀ {env : Env} {i : Nat} {s : Sl}, env.length ≤ i → setS env i s = env
  | [], _, _, _ => rfl
  | _ :: r, 0, _, h => by simp at h
  | x :: r, i + 1, s, h => by
    show x :: setS r i s = x :: r
    rw [setS_ge (by simpa using h)]
theorem SOk.bindVal (S : SOk K mg Fo fx σ H Own env) {i : Nat} {d : D} {v : V} (hf : ∀ p ∈ fx, p.1 ≠ i) (r : Rep K mg H Own d v) : SOk K mg Fo fx (σ.set i (some v)) H Own (setS env i (.val d)) := by
  by_cases hi : i < env.length
  · exact S.setVal hi hf r
  · rw [setS_ge (by omega), List.set_eq_of_length_le (by rw [← S.len]; omega)]
    exact S
theorem wipe_set {v : Option V} : ∀ {vs : List Nat} {σ : L2.St} {i : Nat}, i ∈ vs → wipe (σ.set i v) vs = wipe σ vs
  | [], _, _, h => by cases h
  | j :: vs, σ, i, h => by
    show (wipe (σ.set i v) vs).set j none = (wipe σ vs).set j none
    by_cases hi : i ∈ vs
    · rw [wipe_set hi]
    · have e : i = j := by
        rcases List.mem_cons.mp h with e | e
        · exact e
        · exact absurd e hi
      subst e
      have : ∀ (vs : List Nat) (σ : L2.St), i ∉ vs → wipe (σ.set i v) vs = (wipe σ vs).set i v := by
        intro vs
        induction vs with
        | nil => intro σ _; rfl
        | cons k vs ih =>
          intro σ hn
          have h1 : i ≠ k := fun z => hn (z ▸ List.mem_cons_self)
          have h2 : i ∉ vs := fun z => hn (List.mem_cons_of_mem _ z)
          show (wipe (σ.set i v) vs).set k none = ((wipe σ vs).set k none).set i v
          rw [ih σ h2, List.set_comm _ _ h1]
      rw [this vs σ hi, List.set_set]
theorem binds_sound : ∀ (is : List Nat) (ds : List D) (xs : List V) {σ : L2.St} {env : Env} {Q : Env → Prop}, ds.length = is.length → Q (setsS env is ds) → SOk K mg Fo fx σ H Own env → Reps K mg H Own ds xs → (∀ p ∈ fx, p.1 ∉ is) →
    gNames is xs σ H fun σ2 H2 => H2 = H ∧ ∃ env2, SOk K mg Fo fx σ2 H Own env2 ∧ Q env2 ∧ ∀ vs, (∀ i ∈ is, i ∈ vs) → wipe σ2 vs = wipe σ vs
  | [], [], xs, σ, env, Q, _, q, S, r, _ => by
    rw [r.nil_inv]
    exact ⟨rfl, rfl, env, S, q, fun _ _ => rfl⟩
  | [], _ :: _, _, _, _, _, hl, _, _, _, _ => by simp at hl
  | _ :: _, [], _, _, _, _, hl, _, _, _, _ => by simp at hl
  | i :: is, d :: ds, _, σ, env, Q, hl, q, S, r, hf => by
    obtain ⟨v, t, rfl, h1, h2⟩ := r.inv
    refine ⟨v, t, rfl, ?_⟩
    have S1 := S.bindVal (i := i) (fun p hp z => hf p hp (z ▸ List.mem_cons_self)) h1
    have := binds_sound is ds t (Q := Q) (by simpa using hl) q S1 h2 (fun p hp z => hf p hp (List.mem_cons_of_mem _ z))
    have mono : ∀ (is : List Nat) (xs : List V) (σ : L2.St) (H : Hp) (P P' : L2.St → Hp → Prop), (∀ a b, P a b → P' a b) → gNames is xs σ H P → gNames is xs σ H P' := by
      intro is
      induction is with
      | nil => intro xs σ H P P' m h; exact ⟨h.1, m _ _ h.2⟩
      | cons i is ih =>
        intro xs σ H P P' m h
        obtain ⟨v, r, e, h⟩ := h
        exact ⟨v, r, e, ih _ _ _ _ _ m h⟩
    refine mono is t _ H _ _ (fun σ2 H2 hq => ?_) this
    obtain ⟨e, env2, a, b, w⟩ := hq
    refine ⟨e, env2, a, b, fun vs hvs => ?_⟩
    rw [w vs fun j hj => hvs j (List.mem_cons_of_mem _ hj), wipe_set (hvs i List.mem_cons_self)]
theorem bind_sound {tg : Tg} {d : D} {v : V} {Q : Env → Prop} (hb : bindT tg d env Q) (S : SOk K mg Fo fx σ H Own env) (r : Rep K mg H Own d v) (hf : ∀ p ∈ fx, p.1 ∉ tgs tg) :
    gTg K tg v σ H fun σ2 H2 => H2 = H ∧ ∃ env2, SOk K mg Fo fx σ2 H Own env2 ∧ Q env2 ∧ ∀ vs, (∀ i ∈ tgs tg, i ∈ vs) → wipe σ2 vs = wipe σ vs := by
  cases tg with
  | nm i =>
    refine ⟨rfl, setS env i (.val d), S.bindVal (fun p hp z => hf p hp (by rw [z]; exact List.mem_cons_self)) r, hb, fun vs hvs => ?_⟩
    exact wipe_set (hvs i List.mem_cons_self)
  | tp is =>
    cases d with
    | tup ds =>
      obtain ⟨hl, q⟩ := hb
      simp only [Rep] at r
      obtain ⟨a, xs, rfl, hs, rs⟩ := r
      exact ⟨a, xs, rfl, hs, by rw [rs.length]; exact hl, binds_sound is ds xs hl q S rs hf⟩
    | _ => exact hb.elim
theorem gNames_mono : ∀ (is : List Nat) (xs : List V) (σ : L2.St) (H : Hp) (P P' : L2.St → Hp → Prop), (∀ a b, P a b → P' a b) → gNames is xs σ H P → gNames is xs σ H P'
  | [], _, _, _, _, _, m, h => ⟨h.1, m _ _ h.2⟩
  | i :: is, xs, σ, H, P, P', m, h => by
    obtain ⟨v, r, e, h⟩ := h
    exact ⟨v, r, e, gNames_mono is _ _ _ _ _ m h⟩
theorem gTg_mono {tg : Tg} {v : V} {P P' : L2.St → Hp → Prop} (m : ∀ a b, P a b → P' a b) (h : gTg K tg v σ H P) : gTg K tg v σ H P' := by
  cases tg with
  | nm i => exact m _ _ h
  | tp is =>
    obtain ⟨a, xs, e1, e2, e3, h⟩ := h
    exact ⟨a, xs, e1, e2, e3, gNames_mono is _ _ _ _ _ m h⟩
end

section
variable {X : Cx} {c : Ck} {Γ : Gam} {W : WX}
/-- names that may be stored here -/
def StoreOk (X : Cx) (P : Str → Bool) : Prop := ∀ x, P x = true → Loc X.env.scope x ∧ (X.fn x = true ∨ X.env.scope.names.lookup x = some .local)
theorem pgs_nms {P : Str → Bool} (hN : X.N = c.N) (nd : X.N.Nodup) (hP : StoreOk X P) : ∀ {is : List Nat} {es : List Expr}, okNms c P is es = true → PGs X es (gNames is) ∧ (assignEach es X.env).length = is.length ∧ (assignEach es X.env).findIdx? (·.1) = none
  | [], [], _ => ⟨pgs_nil, rfl, rfl⟩
  | [], _ :: _, h => by simp [okNms] at h
  | i :: is, e :: es, h => by
    cases e with
    | Name x p =>
      simp only [okNms, Bool.and_eq_true, decide_eq_true_eq] at h
      obtain ⟨⟨h1, h2⟩, h3⟩ := h
      obtain ⟨l, f⟩ := hP x h2
      obtain ⟨a, b, d⟩ := pgs_nms hN nd hP h3
      have e1 : assignEach (Expr.Name x p :: es) X.env = (false, assign (.Name x p) X.env) :: assignEach es X.env := rfl
      refine ⟨pgs_cons (pg_name nd (by rw [hN]; exact h1) l f) a (by rw [e1]; rfl), by rw [e1, List.length_cons, b]; rfl, ?_⟩
      rw [e1, List.findIdx?_cons, d]
      rfl
    | _ => simp [okNms] at h
  | i :: is, [], h => by simp [okNms] at h
theorem pg_tg {P : Str → Bool} (hN : X.N = c.N) (nd : X.N.Nodup) (calm : X.calm = true) (hP : StoreOk X P) {tg : Tg} {e : Expr} (h : okTg c P tg e = true) : PG X e (gTg X.K tg) := by
  unfold okTg at h
  split at h
  · rename_i i x p
    simp only [Bool.and_eq_true, decide_eq_true_eq] at h
    obtain ⟨l, f⟩ := hP x h.2
    exact pg_name nd (by rw [hN]; exact h.1) l f
  · rename_i is es k p
    obtain ⟨a, b, d⟩ := pgs_nms hN nd hP h
    exact pg_tup calm a b d
  · cases h

/-! ### what is walked -/
def iSeq (K : PySem.W.Frag) (tl : TE) : TI := fun σ H R => tl σ H fun x H1 => ∃ a, x = .ref a ∧ ((∃ xs, SqL K H1 a xs ∧ R (Itl K a) H1) ∨ ∃ xs, SqT K H1 a xs ∧ R (Itt K a) H1)
theorem pi_seq {tg l : Expr} {tl : TE} (hl : PE X l tl) : PI X tg l (iSeq X.K tl) := by
  refine ⟨fun pins s σ H R I h => ?_⟩
  refine thn (hl.run pins s σ H _ I h) fun v s1 hv => ?_
  obtain ⟨x, H1, I1, r1, a, rfl, hq⟩ := hv
  cases r1
  rcases hq with ⟨xs, hq, q⟩ | ⟨xs, hq, q⟩
  · obtain ⟨its, _, p, _⟩ := I1.list hq
    refine PySem.wpAny_pyIter_list p.isList ⟨s1.heap.objs.size, [s1.heap.objs.size], _, _, H1, rfl, I1.kept (t' := s1.toks) fun b o e => Heap.get?_push_of_some _ e, turn_list a _, ⟨_, Heap.get?_push_size _ rfl, rfl, rfl⟩, fun b hb => ?_, q⟩
    obtain rfl := List.mem_singleton.mp hb
    exact I1.fpOk (Nat.le_refl _) (I1.hok.fresh (Nat.le_refl _))
  · obtain ⟨its, _, p, _⟩ := I1.tuple hq
    refine PySem.wpAny_pyIter_tuple (show s1.heap.IsTuple a its.toArray from p) ⟨s1.heap.objs.size, [s1.heap.objs.size], _, _, H1, rfl, I1.kept (t' := s1.toks) fun b o e => Heap.get?_push_of_some _ e, turn_tuple a _, ⟨_, Heap.get?_push_size _ rfl, rfl, rfl⟩, fun b hb => ?_, q⟩
    obtain rfl := List.mem_singleton.mp hb
    exact I1.fpOk (Nat.le_refl _) (I1.hok.fresh (Nat.le_refl _))
theorem folded_nice {iter : Expr} (h : nice iter = true) : ∀ x, foldedSetIterable iter X.env x = pure x := by
  intro x
  cases iter <;> first
    | rfl
    | (cases h)

section
variable {K : PySem.W.Frag} {mg : Str → Option Value} {H : Hp} {Own : Addr → Prop}
theorem Le.lst {H H' : Hp} {Own Own' : Addr → Prop} (l : Le H Own H' Own') {a : Addr} {xs : List V} (n : ¬ Own a) (h : H a = some (.lst xs)) : SqL K H' a xs := SqL.of (l a _ h n).1
theorem it_list {a : Addr} {ds : List D} {vs : List V} (h : (¬ Own a ∧ Rd H a (.lst vs)) ∨ SqL K (fun _ => none) a vs) (ok : OwnOk H Own) (r : Reps K mg H Own ds vs) : ItOk K mg (Itl K a) H Own ds := by
  refine ⟨fun H1 => SqL K H1 a vs, YAt vs, by rw [← r.length]; exact walk_list, fun H1 Own1 l => h.elim (fun z => .inl (l.rd z.1 z.2).1) sqL_none, fun i d H1 Own1 x H2 e ok1 l y => .inl ?_⟩
  obtain ⟨y1, y2⟩ := y
  obtain ⟨w, e1, rw⟩ := r.get e
  rw [e1] at y2
  cases y2
  exact ⟨y1, Rep.le l ok _ _ rw⟩
theorem it_tup {a : Addr} {ds : List D} {vs : List V} (h : SqT K H a vs) (ok : OwnOk H Own) (r : Reps K mg H Own ds vs) : ItOk K mg (Itt K a) H Own ds := by
  refine ⟨fun H1 => SqT K H1 a vs, YAt vs, by rw [← r.length]; exact walk_tup, fun H1 Own1 l => l.sqT ok h, fun i d H1 Own1 x H2 e ok1 l y => .inl ?_⟩
  obtain ⟨y1, y2⟩ := y
  obtain ⟨w, e1, rw⟩ := r.get e
  rw [e1] at y2
  cases y2
  exact ⟨y1, Rep.le l ok _ _ rw⟩
theorem it_rng {lo : Int} {n : Nat} : ItOk K mg (Itr lo n) H Own (rngD lo n) := by
  have hl : (rngD lo n).length = n := by simp [rngD]
  refine ⟨fun _ => True, YFn fun i => .int (lo + i), by rw [hl]; exact walk_range, fun _ _ _ => trivial, fun i d H1 Own1 x H2 e _ _ y => .inl ?_⟩
  obtain ⟨y1, y2⟩ := y
  refine ⟨y1, ?_⟩
  have hin : i < n := by
    have : i < (rngD lo n).length := (List.getElem?_eq_some_iff.mp e).1
    rw [hl] at this; exact this
  unfold rngD at e
  rw [List.getElem?_map, List.getElem?_range hin] at e
  cases e
  simp only [Rep]
  exact y2
theorem walk_zipT {a b : Addr} {xs ys : List V} : Walk (RZ.ItzT K a b) (min xs.length ys.length) (fun H => SqT K H a xs ∧ SqT K H b ys) (YPair (fun i => xs[i]?) (fun i => ys[i]?)) := by
  refine ⟨fun i _ hi q => ?_, fun _ q => ⟨xs, ys, q.1, q.2, by omega⟩, fun i H v H' _ q y => ?_⟩
  · have h1 : i < xs.length := by omega
    have h2 : i < ys.length := by omega
    exact ⟨xs, ys, xs[i], ys[i], q.1, q.2, List.getElem?_eq_getElem h1, List.getElem?_eq_getElem h2⟩
  · obtain ⟨T, x, z, e1, e2, e3, e4, e5⟩ := y
    exact ⟨T, x, z, e1, e2, e3, e4 xs q.1, e5 ys q.2⟩
theorem zip_at {xs ys : List D} {us ws : List V} (r1 : Reps K mg H Own xs us) (r2 : Reps K mg H Own ys ws) (ok : OwnOk H Own) {H1 : Hp} {Own1 : Addr → Prop} (l : Le H Own H1 Own1) {i : Nat} {d : D} {x : V} {H2 : Hp} (e : (zipD xs ys)[i]? = some d)
    (y : YPair (fun i => us[i]?) (fun i => ws[i]?) i H1 x H2) : ∃ T ts es, x = .ref T ∧ H1 T = none ∧ H2 = upd H1 T (.tup ts) ∧ d = .tup es ∧ Reps K mg H1 Own1 es ts := by
  obtain ⟨T, u, w, e1, e2, e3, e4, e5⟩ := y
  unfold zipD at e
  rw [List.getElem?_map] at e
  obtain ⟨p, ep, rfl⟩ := Option.map_eq_some_iff.mp e
  rw [List.getElem?_zip_eq_some] at ep
  obtain ⟨g1, g2⟩ := ep
  obtain ⟨u', e6, q1⟩ := r1.get g1
  obtain ⟨w', e7, q2⟩ := r2.get g2
  have e4' : us[i]? = some u := e4
  have e5' : ws[i]? = some w := e5
  rw [e6] at e4'; rw [e7] at e5'
  cases e4'; cases e5'
  exact ⟨T, [u, w], [p.1, p.2], e1, e2, e3, rfl, .cons (Rep.le l ok _ _ q1) (.cons (Rep.le l ok _ _ q2) .nil)⟩
theorem zipD_length {xs ys : List D} : (zipD xs ys).length = min xs.length ys.length := by simp [zipD]
theorem it_zipT {a b : Addr} {xs ys : List D} {us ws : List V} (h1 : SqT K H a us) (h2 : SqT K H b ws) (ok : OwnOk H Own) (r1 : Reps K mg H Own xs us) (r2 : Reps K mg H Own ys ws) : ItOk K mg (RZ.ItzT K a b) H Own (zipD xs ys) := by
  refine ⟨fun H1 => SqT K H1 a us ∧ SqT K H1 b ws, YPair (fun i => us[i]?) (fun i => ws[i]?), by rw [zipD_length, ← r1.length, ← r2.length]; exact walk_zipT, fun H1 Own1 l => ⟨l.sqT ok h1, l.sqT ok h2⟩, fun i d H1 Own1 x H2 e ok1 l y => .inr (zip_at r1 r2 ok l e y)⟩
theorem it_zipL {a b : Addr} {xs ys : List D} {us ws : List V} (n1 : ¬ Own a) (h1 : H a = some (.lst us)) (n2 : ¬ Own b) (h2 : H b = some (.lst ws)) (ok : OwnOk H Own) (r1 : Reps K mg H Own xs us) (r2 : Reps K mg H Own ys ws) : ItOk K mg (Itz K a b) H Own (zipD xs ys) := by
  refine ⟨fun H1 => SqL K H1 a us ∧ SqL K H1 b ws, YPair (fun i => us[i]?) (fun i => ws[i]?), walk_zip (by rw [zipD_length, r1.length, r2.length]), fun H1 Own1 l => ⟨l.lst n1 h1, l.lst n2 h2⟩, fun i d H1 Own1 x H2 e ok1 l y => .inr (zip_at r1 r2 ok l e y)⟩
theorem enum_at {xs : List D} {us : List V} (r1 : Reps K mg H Own xs us) (ok : OwnOk H Own) {H1 : Hp} {Own1 : Addr → Prop} (l : Le H Own H1 Own1) {i : Nat} {d : D} {x : V} {H2 : Hp} (e : (enumD xs)[i]? = some d)
    (y : YPair (fun i => some (.int (i : Nat))) (fun i => us[i]?) i H1 x H2) : ∃ T ws es, x = .ref T ∧ H1 T = none ∧ H2 = upd H1 T (.tup ws) ∧ d = .tup es ∧ Reps K mg H1 Own1 es ws := by
  obtain ⟨T, u, w, e1, e2, e3, e4, e5⟩ := y
  unfold enumD at e
  rw [List.getElem?_map] at e
  obtain ⟨p, ep, rfl⟩ := Option.map_eq_some_iff.mp e
  rw [List.getElem?_zip_eq_some] at ep
  obtain ⟨g1, g2⟩ := ep
  obtain ⟨w', e7, q2⟩ := r1.get g2
  have e5' : us[i]? = some w := e5
  rw [e7] at e5'
  cases e5'
  have e4' : some (V.int (i : Nat)) = some u := e4
  cases e4'
  have hi : i < xs.length := (List.getElem?_eq_some_iff.mp g2).1
  rw [List.getElem?_range hi] at g1
  have g1' : i = p.1 := Option.some.inj g1
  exact ⟨T, [.int (i : Nat), w], [.int p.1, p.2], e1, e2, e3, rfl, .cons (by simp only [Rep]; rw [g1']) (.cons (Rep.le l ok _ _ q2) .nil)⟩
theorem it_enumL {a : Addr} {xs : List D} {us : List V} (h : (¬ Own a ∧ Rd H a (.lst us)) ∨ SqL K (fun _ => none) a us) (ok : OwnOk H Own) (r1 : Reps K mg H Own xs us) : ItOk K mg (Ite K a) H Own (enumD xs) := by
  have hl : (enumD xs).length = us.length := by simp [enumD, r1.length]
  exact ⟨fun H1 => SqL K H1 a us, _, by rw [hl]; exact walk_enum, fun H1 Own1 l => h.elim (fun z => .inl (l.rd z.1 z.2).1) sqL_none, fun i d H1 Own1 x H2 e ok1 l y => .inr (enum_at r1 ok l e y)⟩
theorem walk_enumT {a : Addr} {ws : List V} : Walk (IteT K a) ws.length (fun H => SqT K H a ws) (YPair (fun i => some (.int (i : Nat))) (fun i => ws[i]?)) := by
  refine ⟨fun i _ hi q => ⟨ws, ws[i], q, List.getElem?_eq_getElem hi⟩, fun _ q => ⟨ws, q, rfl⟩, fun i H v H' _ q y => ?_⟩
  obtain ⟨T, z, e1, e2, e3, e4⟩ := y
  exact ⟨T, _, z, e1, e2, e3, rfl, e4 ws q⟩
theorem it_enumT {a : Addr} {xs : List D} {us : List V} (h : SqT K H a us) (ok : OwnOk H Own) (r1 : Reps K mg H Own xs us) : ItOk K mg (IteT K a) H Own (enumD xs) := by
  have hl : (enumD xs).length = us.length := by simp [enumD, r1.length]
  exact ⟨fun H1 => SqT K H1 a us, _, by rw [hl]; exact walk_enumT, fun H1 Own1 l => l.sqT ok h, fun i d H1 Own1 x H2 e ok1 l y => .inr (enum_at r1 ok l e y)⟩
end

/-! ### comprehensions -/
section
variable {K : PySem.W.Frag} {mg : Str → Option Value} {Fo : Fgn} {fx : List (Nat × Addr)} {σ : L2.St} {H H' : Hp} {Own Own' : Addr → Prop} {env : Env}
theorem length_wipeS : ∀ {vs : List Nat} {env : Env}, (wipeS env vs).length = env.length
  | [], _ => rfl
  | i :: vs, env => by show (setS (wipeS env vs) i .un).length = _; rw [length_setS, length_wipeS]
theorem getS_wipeS : ∀ {vs : List Nat} {env : Env} {j : Nat}, (j ∈ vs → getS (wipeS env vs) j = .un) ∧ (j ∉ vs → getS (wipeS env vs) j = getS env j)
  | [], _, _ => ⟨fun h => (by cases h), fun _ => rfl⟩
  | i :: vs, env, j => by
    obtain ⟨h1, h2⟩ := @getS_wipeS vs env j
    by_cases hj : j = i
    · subst hj
      refine ⟨fun _ => ?_, fun h => absurd List.mem_cons_self h⟩
      show getS (setS (wipeS env vs) j .un) j = .un
      by_cases hl : j < (wipeS env vs).length
      · exact getS_setS_same hl
      · rw [setS_ge (by omega)]
        cases q : getS (wipeS env vs) j with
        | un => rfl
        | _ => exact absurd (getS_lt (by rw [q]; intro z; cases z)) hl
    · refine ⟨fun h => ?_, fun h => ?_⟩
      · show getS (setS (wipeS env vs) i .un) j = .un
        rw [getS_setS_ne hj]
        exact h1 ((List.mem_cons.mp h).resolve_left hj)
      · show getS (setS (wipeS env vs) i .un) j = getS env j
        rw [getS_setS_ne hj]
        exact h2 fun z => h (List.mem_cons_of_mem _ z)
theorem wipe_out' : ∀ {vs : List Nat} {σ : L2.St} {i : Nat}, i ∉ vs → (wipe σ vs)[i]? = σ[i]?
  | [], _, _, _ => rfl
  | j :: vs, σ, i, h => by
    show ((wipe σ vs).set j none)[i]? = σ[i]?
    have hne : j ≠ i := fun z => h (by rw [z]; exact List.mem_cons_self)
    rw [List.getElem?_set_ne hne, wipe_out' fun z => h (List.mem_cons_of_mem _ z)]
theorem SOk.wipe (S : SOk K mg Fo fx σ H Own env) (vs : List Nat) : SOk K mg Fo [] (L2.wipe σ vs) H Own (wipeS env vs) where
  len := by rw [length_wipeS, wipe_length]; exact S.len
  ok := S.ok
  at_ := fun j => by
    by_cases h : j ∈ vs
    · rw [getS_wipeS.1 h]; trivial
    · rw [getS_wipeS.2 h]
      have := S.at_ j
      revert this
      cases getS env j with
      | un => intro _; trivial
      | val d => rintro ⟨v, e1, e2⟩; exact ⟨v, by rw [wipe_out' h]; exact e1, e2⟩
      | own ds => rintro ⟨a, us, e1, e2⟩; exact ⟨a, us, by rw [wipe_out' h]; exact e1, e2⟩
  dis := fun i j a hij oi oj => by
    have hi : i ∉ vs := fun z => by rw [getS_wipeS.1 z] at oi; exact oi
    have hj : j ∉ vs := fun z => by rw [getS_wipeS.1 z] at oj; exact oj
    rw [getS_wipeS.2 hi] at oi
    rw [getS_wipeS.2 hj] at oj
    rw [wipe_out' hi, wipe_out' hj]
    exact S.dis i j a hij oi oj
  fo := fun a o f => by
    obtain ⟨h1, h2, h3⟩ := S.fo a o f
    refine ⟨h1, h2, fun i hi => ?_⟩
    have hn : i ∉ vs := fun z => by rw [getS_wipeS.1 z] at hi; exact hi
    rw [getS_wipeS.2 hn] at hi
    rw [wipe_out' hn]
    exact h3 i hi
  fx := fun p hp => by cases hp
theorem length_restS : ∀ {vs : List Nat} {env old : Env}, (restS env old vs).length = env.length
  | [], _, _ => rfl
  | i :: vs, env, old => by show (setS (restS env old vs) i _).length = _; rw [length_setS, length_restS]
theorem getS_restS : ∀ {vs : List Nat} {env old : Env} {j : Nat}, env.length = old.length → (j ∈ vs → getS (restS env old vs) j = getS old j) ∧ (j ∉ vs → getS (restS env old vs) j = getS env j)
  | [], _, _, _, _ => ⟨fun h => (by cases h), fun _ => rfl⟩
  | i :: vs, env, old, j, hl => by
    obtain ⟨h1, h2⟩ := @getS_restS vs env old j hl
    by_cases hj : j = i
    · subst hj
      refine ⟨fun _ => ?_, fun h => absurd List.mem_cons_self h⟩
      show getS (setS (restS env old vs) j (getS old j)) j = getS old j
      by_cases hlt : j < (restS env old vs).length
      · exact getS_setS_same hlt
      · rw [setS_ge (by omega)]
        rw [length_restS] at hlt
        have e1 : getS old j = .un := by
          cases q : getS old j with
          | un => rfl
          | _ => exact absurd (getS_lt (by rw [q]; intro z; cases z)) (by omega)
        cases q : getS (restS env old vs) j with
        | un => rw [e1]
        | _ => exact absurd (getS_lt (by rw [q]; intro z; cases z)) (by rw [length_restS]; omega)
    · refine ⟨fun h => ?_, fun h => ?_⟩
      · show getS (setS (restS env old vs) i _) j = getS old j
        rw [getS_setS_ne hj]
        exact h1 ((List.mem_cons.mp h).resolve_left hj)
      · show getS (setS (restS env old vs) i _) j = getS env j
        rw [getS_setS_ne hj]
        exact h2 fun z => h (List.mem_cons_of_mem _ z)
theorem noOwn_at : ∀ {vs : List Nat} {env : Env}, noOwn env vs → ∀ j ∈ vs, ¬ isOwn (getS env j)
  | [], _, _, _, h => by cases h
  | i :: vs, env, h, j, hj => by
    obtain ⟨h1, h2⟩ := h
    rcases List.mem_cons.mp hj with e | e
    · subst e
      intro o
      cases q : getS env j with
      | own _ => rw [q] at h1; exact h1
      | un => rw [q] at o; exact o
      | val _ => rw [q] at o; exact o
    · exact noOwn_at h2 j e
/-- the foreign and one list more -/
def FoD (Fo : Fgn) (D : Addr) (ws : List V) : Fgn := fun a o => Fo a o ∨ (a = D ∧ o = .lst ws)
/-- behind the block -/
theorem SOk.unwipe {vs : List Nat} {H1 : Hp} {Own1 : Addr → Prop} {env1 : Env} {D : Addr} {ws : List V} (S1 : SOk K mg Fo fx σ H1 Own1 env1) (no : noOwn env1 vs) (S : SOk K mg (FoD Fo D ws) [] (L2.wipe σ vs) H Own env) (l : Le H1 Own1 H Own) :
    SOk K mg Fo fx σ H Own (restS env env1 vs) := by
  have hl : env.length = env1.length := by rw [S.len, wipe_length, S1.len]
  have back : ∀ j, isOwn (getS (restS env env1 vs) j) → j ∉ vs ∧ isOwn (getS env j) := fun j o => by
    by_cases h : j ∈ vs
    · rw [(getS_restS hl).1 h] at o
      exact absurd o (noOwn_at no j h)
    · rw [(getS_restS hl).2 h] at o
      exact ⟨h, o⟩
  refine ⟨by rw [length_restS, hl]; exact S1.len, S.ok, fun j => ?_, fun i j a hij oi oj => ?_, fun a o f => ?_, S1.fx⟩
  · by_cases h : j ∈ vs
    · rw [(getS_restS hl).1 h]
      have := S1.at_ j
      have nj := noOwn_at no j h
      revert this nj
      cases getS env1 j with
      | un => intro _ _; trivial
      | val d => rintro ⟨v, e1, e2⟩ _; exact ⟨v, e1, Rep.le l S1.ok d v e2⟩
      | own ds => intro _ z; exact absurd trivial z
    · rw [(getS_restS hl).2 h]
      have := S.at_ j
      revert this
      cases getS env j with
      | un => intro _; trivial
      | val d => rintro ⟨v, e1, e2⟩; exact ⟨v, by rw [← wipe_out' h]; exact e1, e2⟩
      | own ds => rintro ⟨a, us, e1, e2⟩; exact ⟨a, us, by rw [← wipe_out' h]; exact e1, e2⟩
  · obtain ⟨hi, oi'⟩ := back i oi
    obtain ⟨hj, oj'⟩ := back j oj
    rw [← wipe_out' hi, ← wipe_out' hj]
    exact S.dis i j a hij oi' oj'
  · obtain ⟨h1, h2, h3⟩ := S.fo a o (.inl f)
    refine ⟨h1, h2, fun i hi => ?_⟩
    obtain ⟨hn, oi⟩ := back i hi
    rw [← wipe_out' hn]
    exact h3 i oi
/-- the list under making gets an item -/
theorem SOk.grown {D : Addr} {ws us : List V} (S : SOk K mg (FoD Fo D ws) [] σ H Own env) (n : ∀ o, ¬ Fo D o) : SOk K mg (FoD Fo D us) [] σ (upd H D (.lst us)) Own env ∧ Le H Own (upd H D (.lst us)) Own ∧ H D = some (.lst ws) := by
  obtain ⟨h1, h2, h3⟩ := S.fo D (.lst ws) (.inr ⟨rfl, rfl⟩)
  have l : Le H Own (upd H D (.lst us)) Own := fun a o e no => by
    have ne : a ≠ D := fun z => no (z ▸ h1)
    rw [upd_ne ne]; exact ⟨e, no⟩
  refine ⟨⟨S.len, fun a o => ?_, fun j => ?_, S.dis, fun a o f => ?_, fun p hp => by cases hp⟩, l, h2⟩
  · by_cases z : a = D
    · subst z; exact ⟨us, upd_same⟩
    · obtain ⟨vs, e⟩ := S.ok a o
      exact ⟨vs, by rw [upd_ne z]; exact e⟩
  · have := S.at_ j
    have nj := h3 j
    revert this nj
    cases getS env j with
    | un => intro _ _; trivial
    | val d => rintro ⟨v, e1, e2⟩ _; exact ⟨v, e1, Rep.le l S.ok d v e2⟩
    | own ds =>
      rintro ⟨a, vs, e1, e2, e3, e4⟩ nj
      have ne : a ≠ D := fun z => nj trivial (z ▸ e1)
      exact ⟨a, vs, e1, e2, by rw [upd_ne ne]; exact e3, Reps.le l S.ok ds vs e4⟩
  · rcases f with f | ⟨rfl, rfl⟩
    · have ne : a ≠ D := fun z => n o (z ▸ f)
      obtain ⟨g1, g2, g3⟩ := S.fo a o (.inl f)
      exact ⟨g1, by rw [upd_ne ne]; exact g2, g3⟩
    · exact ⟨h1, upd_same, h3⟩
end

/-- in the block of a comprehension nothing is raised -/
def Wf : WX := fun _ _ _ _ => False
theorem takesF {X : Cx} : Takes X Wf := fun _ _ x => by
  obtain ⟨_, _, _, _, _, _, _, _, _, _, _, _, _, _, _, _, z⟩ := x
  exact z.elim

/-- [e for tg in it if ts] -/
theorem comp_core {vs : List Nat} {tg : Tg} {it : Pd.It} {ts : Tss} {e : Ex} (ht : ∀ i ∈ tgs tg, i ∈ vs) : ∀ (σ : L2.St) (H : Hp) (R : VK), TXF X.K X.mg Γ W (.comp vs tg it ts e) σ H R →
    tLc (TIt X.K X.mg Γ W it) (gTg X.K tg) (TTs X.K X.mg Γ Wf true ts) (TX X.K X.mg Γ Wf e) vs σ H R := by
  intro σ H R hx
  obtain ⟨Fo, fx, Own, env, Q, E, S, hw, okk, ke⟩ := hx
  simp only [wpE] at hw
  refine ⟨Fo, fx, Own, env, _, E, S, hw, fun J H1 Own1 env1 ds S1 l1 hit hq => ?_, ke⟩
  obtain ⟨no, hq⟩ := hq
  intro D hD
  obtain ⟨G, Y, wk, hG, hY⟩ := hit
  have nFo : ∀ o, ¬ Fo D o := fun o f => by
    obtain ⟨_, h2, _⟩ := S1.fo D o f
    rw [hD] at h2; cases h2
  -- the list is laid
  have S2 := S1.newOwn (ws := []) hD
  have l2 : Le H1 Own1 (upd H1 D (.lst [])) (fun a => Own1 a ∨ a = D) := Le.newOwn hD
  have nD : ∀ i, isOwn (getS env1 i) → σ[i]? ≠ some (some (.ref D)) := fun i hi' ee => by
    cases q : getS env1 i with
    | own xs =>
      obtain ⟨a, us, e1, _, e3, _⟩ := S1.own q
      rw [ee] at e1; cases e1
      rw [hD] at e3; cases e3
    | un => rw [q] at hi'; exact hi'
    | val d => rw [q] at hi'; exact hi'
  have S3 : SOk X.K X.mg (FoD Fo D []) [] (wipe σ vs) (upd H1 D (.lst [])) (fun a => Own1 a ∨ a = D) (wipeS env1 vs) := by
    have W2 := S2.wipe vs
    refine ⟨W2.len, W2.ok, W2.at_, W2.dis, fun a o f => ?_, W2.fx⟩
    rcases f with f | ⟨rfl, rfl⟩
    · exact W2.fo a o f
    · refine ⟨.inr rfl, upd_same, fun i oi => ?_⟩
      have hn : i ∉ vs := fun z => by rw [getS_wipeS.1 z] at oi; exact oi
      rw [getS_wipeS.2 hn] at oi
      rw [wipe_out' hn]
      exact nD i oi
  refine lc_it wk (fun i H => ∃ Own2 env2 acc ws, SOk X.K X.mg (FoD Fo D ws) [] (wipe σ vs) H Own2 env2 ∧ Le H1 Own1 H Own2 ∧ Reps X.K X.mg H Own2 acc ws ∧
      compL (fun d env2 k => bindT tg d env2 fun env3 => wpTss Γ true ts env3 (fun c env4 =>
        (c = true → wpE Γ e env4 (fun y env5 => k (some y) (wipeS env5 vs)) fun _ _ => False) ∧ (c = false → k none (wipeS env4 vs))) fun _ _ => False)
        (ds.drop i) acc env2 fun acc env' => Q (.lst acc) (restS env' env1 vs))
    ⟨_, _, [], [], S3, l2, .nil, hq⟩ (fun i H' _ hp => ?_) (fun i x H' H2 hlt hp hy => ?_) (fun H' hp => ?_)
  · obtain ⟨Own2, env2, acc, ws, S4, l4, _⟩ := hp
    exact hG H' Own2 l4
  · obtain ⟨Own2, env2, acc, ws, S4, l4, rs, hc⟩ := hp
    have hd : ds[i]? = some ds[i] := List.getElem?_eq_getElem hlt
    rw [List.drop_eq_getElem_cons hlt] at hc
    simp only [compL] at hc
    have step : ∀ H2, SOk X.K X.mg (FoD Fo D ws) [] (wipe σ vs) H2 Own2 env2 → Le H' Own2 H2 Own2 → Rep X.K X.mg H2 Own2 ds[i] x → gTg X.K tg x (wipe σ vs) H2 fun σ2 H3 => wipe σ2 vs = wipe σ vs ∧ TTs X.K X.mg Γ Wf true ts σ2 H3 fun b H4 =>
        if b = true then TX X.K X.mg Γ Wf e σ2 H4 fun y H5 => ∃ acc, H5 D = some (.lst acc) ∧ acc.length < sizeLine ∧ (∃ Own2 env2 ac ws, SOk X.K X.mg (FoD Fo D ws) [] (wipe σ vs) (upd H5 D (.lst (acc ++ [y]))) Own2 env2 ∧ Le H1 Own1 (upd H5 D (.lst (acc ++ [y]))) Own2 ∧ Reps X.K X.mg (upd H5 D (.lst (acc ++ [y]))) Own2 ac ws ∧
          compL (fun d env2 k => bindT tg d env2 fun env3 => wpTss Γ true ts env3 (fun c env4 =>
            (c = true → wpE Γ e env4 (fun y env5 => k (some y) (wipeS env5 vs)) fun _ _ => False) ∧ (c = false → k none (wipeS env4 vs))) fun _ _ => False)
            (ds.drop (i + 1)) ac env2 fun acc env' => Q (.lst acc) (restS env' env1 vs))
        else ∃ Own2 env2 acc ws, SOk X.K X.mg (FoD Fo D ws) [] (wipe σ vs) H4 Own2 env2 ∧ Le H1 Own1 H4 Own2 ∧ Reps X.K X.mg H4 Own2 acc ws ∧
          compL (fun d env2 k => bindT tg d env2 fun env3 => wpTss Γ true ts env3 (fun c env4 =>
            (c = true → wpE Γ e env4 (fun y env5 => k (some y) (wipeS env5 vs)) fun _ _ => False) ∧ (c = false → k none (wipeS env4 vs))) fun _ _ => False)
            (ds.drop (i + 1)) acc env2 fun acc env' => Q (.lst acc) (restS env' env1 vs) := by
      intro H2 S5 l5 rx
      refine gTg_mono (fun σ2 H3 h3 => ?_) (bind_sound hc S5 rx fun p hp => by cases hp)
      obtain ⟨rfl, env3, S6, hw3, hwipe⟩ := h3
      have ew : wipe σ2 vs = wipe σ vs := by
        have idem : wipe (wipe σ vs) vs = wipe σ vs := by
          apply List.ext_getElem?
          intro j
          by_cases hj : j ∈ vs
          · have none_at : ∀ (vs : List Nat) (τ : L2.St), j ∈ vs → ∀ v, (wipe τ vs)[j]? ≠ some (some v) := fun vs τ hj v z => (wipe_some z).2 hj
            have a1 := none_at vs (wipe σ vs) hj
            have a2 := none_at vs σ hj
            have len : (wipe (wipe σ vs) vs).length = (wipe σ vs).length := by rw [wipe_length]
            cases q1 : (wipe (wipe σ vs) vs)[j]? with
            | none =>
              rw [List.getElem?_eq_none_iff] at q1
              rw [List.getElem?_eq_none_iff.mpr (by omega)]
            | some o =>
              cases o with
              | some v => exact absurd q1 (a1 v)
              | none =>
                have : j < (wipe σ vs).length := by
                  have := (List.getElem?_eq_some_iff.mp q1).1
                  omega
                cases q2 : (wipe σ vs)[j]? with
                | none => rw [List.getElem?_eq_none_iff] at q2; omega
                | some o =>
                  cases o with
                  | some v => exact absurd q2 (a2 v)
                  | none => rfl
          · rw [wipe_out' hj]
        rw [hwipe vs ht, idem]
      refine ⟨ew, FoD Fo D ws, [], Own2, env3, _, _, S6, hw3, fun b H4 Own4 env4 S7 l7 hb => ?_, fun _ _ _ _ _ _ _ _ _ z => z.elim⟩
      have l47 := (l4.trans l5).trans l7
      cases b with
      | true =>
        refine L2.iteT ?_
        refine ⟨FoD Fo D ws, [], Own4, env4, _, _, S7, hb.1 rfl, fun y H5 Own5 env5 dy S8 l8 ry hk => ?_, fun _ _ _ _ _ _ _ _ _ z => z.elim⟩
        obtain ⟨hz, hk⟩ := hk
        obtain ⟨S9, l9, eD⟩ := S8.grown (us := ws ++ [y]) nFo
        have rs' : Reps X.K X.mg (upd H5 D (.lst (ws ++ [y]))) Own5 (acc ++ [dy]) (ws ++ [y]) :=
          (Reps.le (((l5.trans l7).trans l8).trans l9) S4.ok _ _ rs).append (.cons (Rep.le l9 S8.ok _ _ ry) .nil)
        refine ⟨ws, eD, by rw [rs.length]; exact hz, Own5, _, acc ++ [dy], ws ++ [y], ?_, (l47.trans l8).trans l9, rs', hk⟩
        have := S9.wipe vs
        rw [ew] at this
        exact this
      | false =>
        refine L2.iteF ?_
        refine ⟨Own4, _, acc, ws, ?_, l47, Reps.le (l5.trans l7) S4.ok _ _ rs, hb.2 rfl⟩
        have := S7.wipe vs
        rw [ew] at this
        exact this
    rcases hY i _ H' Own2 x H2 hd S4.ok l4 hy with ⟨rfl, rx⟩ | ⟨T, us, es, rfl, hT, rfl, ed, rx⟩
    · exact step _ S4 Le.refl rx
    · refine step _ (S4.new hT) (Le.new hT) ?_
      rw [ed]
      exact Rep.tup_of (SqT.of upd_same) (Reps.le (Le.new hT) S4.ok _ _ rx)
  · obtain ⟨Own2, env2, acc, ws, S4, l4, rs, hc⟩ := hp
    rw [List.drop_length] at hc
    simp only [compL] at hc
    obtain ⟨g1, g2, g3⟩ := S4.fo D (.lst ws) (.inr ⟨rfl, rfl⟩)
    have S5 := S1.unwipe no S4 l4
    refine okk D H' Own2 _ acc ws S5 (l1.trans l4) g1 g2 rs (fun i oi => ?_) nFo hc
    have hl : env2.length = env1.length := by rw [S4.len, wipe_length, S1.len]
    have hn : i ∉ vs := fun z => by
      rw [(getS_restS hl).1 z] at oi
      exact noOwn_at no i z oi
    rw [(getS_restS hl).2 hn] at oi
    rw [← wipe_out' hn]
    exact g3 i oi
theorem sound_comp {vs : List Nat} {tg : Tg} {it : Pd.It} {ts : Tss} {e : Ex} {elt tgt iter : Expr} {ifs : List Expr} {scope : Scope} {own : List (Str × Nat)} {pos : Pos} (calm : X.calm = true) (nd : X.N.Nodup)
    (hi : PI X tgt iter (TIt X.K X.mg Γ W it)) (ok : BlkOk X.N X.env.scope scope own) (hv : own.map (·.2) = vs) (ht : ∀ i ∈ tgs tg, i ∈ vs)
    (hg : ∀ (s : Shared) (H : Hp) (C : Addr) (cl : List (Str × Addr)) (fp : List Addr), PG (X.blk s H scope (compEnvC scope cl C X.env) fp) tgt (gTg X.K tg))
    (hts : ∀ (s : Shared) (H : Hp) (C : Addr) (cl : List (Str × Addr)) (fp : List Addr), PTs (X.blk s H scope (compEnvC scope cl C X.env) fp) ifs (TTs X.K X.mg Γ Wf true ts))
    (he : ∀ (s : Shared) (H : Hp) (C : Addr) (cl : List (Str × Addr)) (fp : List Addr), PE (X.blk s H scope (compEnvC scope cl C X.env) fp) elt (TX X.K X.mg Γ Wf e))
    (hs : ∀ x, foldedSetIterable iter X.env x = pure x) : PE X (.ListComp elt [⟨tgt, iter, ifs, 0⟩] scope pos) (TXF X.K X.mg Γ W (.comp vs tg it ts e)) := by
  refine PE.imp (pe_lc calm nd hi ok hg hts he hs) fun σ H R hx => ?_
  rw [hv]
  exact comp_core ht σ H R hx
end
end Pd

set_option Elab.async false
set_option linter.all false
set_option maxRecDepth 100000
/-! PyD, part 8: the check that a syntax tree is an IR, and its soundness for expressions. -/
namespace Pd
open PySem PySem.Spec L2

def cmpOf : Pr → Option CmpOp
  | .lt => some .Lt
  | .le => some .LtE
  | .gt => some .Gt
  | .ge => some .GtE
  | _ => none
def ownOf (c : Ck) (vs : List Nat) : List (Str × Nat) := vs.filterMap fun i => (c.N[i]?).map fun x => (x, i)
def biR (c : Ck) (sc : Scope) (x : Str) (y : Str) : Bool := bi c sc x y
def noPk : As → Bool
  | .nil => true
  | .e _ r => noPk r
  | .pk _ _ => false
def isDisp : Pr → Bool
  | .tupD => true
  | .lstD => true
  | _ => false
mutual
def okE (c : Ck) : Scope → Ex → Expr → Bool
  | sc, .var i, .Name x _ => okVar c sc i x
  | _, .int n, .Constant (.int m) _ _ => decide (n = m)
  | _, .bl b, .Constant (.bool m) _ _ => b == m
  | _, .non, .Constant .none _ _ => true
  | _, .str x, .Constant (.str y) _ _ => decide (x = y)
  | sc, .conI x n, .Name y _ => decide (x = y) && okGl sc y && decide ((x, n) ∈ c.CI)
  | sc, .conT x ns, .Name y _ => decide (x = y) && okGl sc y && decide ((x, ns) ∈ c.CT)
  | sc, .pr p as, e => match shape c sc p e with
    | some es => okAs c sc as es && (!isDisp p || noPk as)
    | none => false
  | sc, .call f as, .Call (.Name x _) (a :: args) [] _ => decide (c.Gn[f]? = some (x, (a :: args).length)) && okGl sc x && decide ((pks as).Nodup) && okAs c sc as (a :: args)
  | sc, .ife t a b, .IfExp t' a' b' _ => okT c sc t t' && okE c sc a a' && okE c sc b b'
  | sc, .ands l, .BoolOp .And es _ => okAs c sc l es && noPk l
  | sc, .ors l, .BoolOp .Or es _ => okAs c sc l es && noPk l
  | sc, .not_ a, .UnaryOp .Not e _ => okE c sc a e
  | sc, .chain p q x y z, .Compare x' [o1, o2] [y', z'] _ => decide (cmpOf p = some o1) && decide (cmpOf q = some o2) && okE c sc x x' && okE c sc y y' && okE c sc z z'
  | sc, .comp vs tg it ts e, .ListComp elt [⟨tgt, iter, ifs, 0⟩] scope _ => okI c sc it tgt iter && blkC c.N sc scope (ownOf c vs) && decide ((ownOf c vs).map (·.2) = vs) && (tgs tg).all (vs.contains ·) &&
      okTg c (locB scope) tg tgt && decide (ifs.length ≤ 1) && okTs c (relS scope sc) ts ifs && okE c (relS scope sc) e elt && nice iter
  | sc, .popAt i k, .Call (.Attribute (.Name x _) n apos) [k'] [] cpos => okVar c sc i x && decide (n = ("pop" : Str)) && (apos.endLine == cpos.line) && okE c sc k k' && nice k'
  | sc, .pop i, .Call (.Attribute (.Name x _) n apos) [] [] cpos => okVar c sc i x && decide (n = ("pop" : Str)) && (apos.endLine == cpos.line)
  | sc, .slc2 x l h, .Subscript x' (.Slice (some l') (some h') none _) _ => okE c sc x x' && okE c sc l l' && okE c sc h h'
  | sc, .rg1 t a, .Call (.Name f _) [.Call (.Name g _) [x] [] _] [] _ => bi c sc f (if t then "tuple" else "list") && bi c sc g "range" && nice x && okE c sc a x
  | sc, .rg2 t a b, .Call (.Name f _) [.Call (.Name g _) [x, y] [] _] [] _ => bi c sc f (if t then "tuple" else "list") && bi c sc g "range" && nice x && nice y && okE c sc a x && okE c sc b y
  | _, _, _ => false
def okAs (c : Ck) : Scope → As → List Expr → Bool
  | _, .nil, [] => true
  | sc, .e a r, e :: es => nice e && okE c sc a e && okAs c sc r es
  | sc, .pk i r, .Name x _ :: es => okVar c sc i x && okAs c sc r es
  | _, _, _ => false
def okT (c : Ck) : Scope → Ts → Expr → Bool
  | sc, .cmp p as, e => match shape c sc p e with
    | some es => isCmp p && okAs c sc as es
    | none => false
  | sc, .ands l, .BoolOp .And (e :: es) _ => okTs c sc l (e :: es)
  | sc, .ors l, .BoolOp .Or (e :: es) _ => okTs c sc l (e :: es)
  | sc, .not_ t, .UnaryOp .Not e _ => okT c sc t e
  | sc, .chain p q x y z, .Compare x' [o1, o2] [y', z'] _ => decide (cmpOf p = some o1) && decide (cmpOf q = some o2) && okE c sc x x' && okE c sc y y' && okE c sc z z'
  | sc, .e a, e => plainT e && okE c sc a e
  | _, _, _ => false
def okTs (c : Ck) : Scope → Tss → List Expr → Bool
  | _, .nil, [] => true
  | sc, .cons t r, e :: es => okT c sc t e && okTs c sc r es
  | _, _, _ => false
def okI (c : Ck) : Scope → It → Expr → Expr → Bool
  | sc, .seq a, _, e => nice e && okE c sc a e
  | sc, .rng1 a, _, .Call (.Name f _) [x] [] _ => bi c sc f "range" && nice x && okE c sc a x
  | sc, .rng2 a b, _, .Call (.Name f _) [x, y] [] _ => bi c sc f "range" && nice x && nice y && okE c sc a x && okE c sc b y
  | sc, .zip a b, .Tuple _ _ _, .Call (.Name f _) [x, y] [] _ => bi c sc f "zip" && nice x && nice y && okE c sc a x && okE c sc b y
  | sc, .enum a, .Tuple _ _ _, .Call (.Name f _) [x] [] _ => bi c sc f "enumerate" && nice x && okE c sc a x
  | _, _, _, _ => false
/-- a test whose truth is its value's -/
def plainT : Expr → Bool
  | .UnaryOp .Not _ _ => false
  | .BoolOp _ _ _ => false
  | .IfExp _ _ _ _ => false
  | .Compare _ _ _ _ => false
  | _ => true
def isCmp : Pr → Bool
  | .eq => true
  | .ne => true
  | .lt => true
  | .le => true
  | .gt => true
  | .ge => true
  | .isN => true
  | .notN => true
  | _ => false
end
end Pd

set_option Elab.async false
set_option linter.all false
set_option maxRecDepth 100000
/-! PyD, part 9: soundness of the check for expressions. -/
namespace Pd
open PySem PySem.Spec L2

section
variable {X : Cx} {c : Ck} {Γ : Gam} {W : WX} {as : As} {e : Expr} {es : List Expr}
theorem sound_is {op : CmpOp} {p : Pr} {f : Bool → Bool} (hop : (op = .Is ∧ f = id) ∨ (op = .IsNot ∧ f = not)) (hp : p.w = pIsN f) (h : shIs op e = some es) (pe : PEs X es (ops X.K X.mg Γ W as)) : PE X e (TX X.K X.mg Γ W (.pr p as)) := by
  obtain ⟨a, k, q, q2, rfl, rfl⟩ := shIs_of h
  obtain ⟨ta, et, ha, _⟩ := pe.one
  refine pe_pr (r := r1 (rIsN f)) ?_ (by rw [hp]; exact sim_isN)
  rw [et]
  rcases hop with ⟨rfl, rfl⟩ | ⟨rfl, rfl⟩
  · exact pe_cmp (pc_isN ha) rfl
  · exact pe_cmp (pc_notN ha) rfl
theorem args_nestV {K : PySem.W.Frag} {mg : Str → Option Value} {Fo : Fgn} {fx : List (Nat × Addr)} {σ : L2.St} : ∀ (as : As) {H : Hp} {Own : Addr → Prop} {env : Env} {Q : List D → Env → Prop} {E : Exn → Env → Prop} {k : List V → Hp → Prop}, noPk as = true → SOk K mg Fo fx σ H Own env → wpA Γ as env Q E →
    (∀ vs H' Own' env' ds, SOk K mg Fo fx σ H' Own' env' → Le H Own H' Own' → Reps K mg H' Own' ds vs → Q ds env' → k vs H') → Ke K mg W Fo fx σ H Own E → nest (ops K mg Γ W as) σ H k
  | .nil, H, Own, env, Q, E, k, _, S, hw, ok, ke => by
    simp only [wpA] at hw
    exact ok [] H Own env [] S Le.refl .nil hw
  | .e a r, H, Own, env, Q, E, k, hn, S, hw, ok, ke => by
    simp only [wpA] at hw
    refine ⟨Fo, fx, Own, env, _, E, S, hw, fun v H1 Own1 env1 d S1 l1 rd hr => ?_, ke⟩
    exact args_nestV r hn S1 hr (fun vs H2 Own2 env2 ds S2 l2 rds q => ok (v :: vs) H2 Own2 env2 (d :: ds) S2 (l1.trans l2) (.cons (Rep.le l2 S1.ok d v rd) rds) q) (ke.le l1)
  | .pk i r, _, _, _, _, _, _, hn, _, _, _, _ => by cases hn
theorem sound_tupD (hn : noPk as = true) (h : shTup e = some es) (pe : PEs X es (ops X.K X.mg Γ W as)) : PE X e (TX X.K X.mg Γ W (.pr .tupD as)) := by
  unfold shTup at h
  split at h
  · cases h
    refine PE.imp (pe_tup pe.pa) fun σ H R hx => ?_
    obtain ⟨Fo, fx, Own, env, Q, E, S, hw, ok, ke⟩ := hx
    simp only [wpE] at hw
    refine args_nestV as hn S hw (fun vs H' Own' env' ds S' l' rds q => ?_) ke
    obtain ⟨hz, q⟩ := q
    refine ⟨by rw [rds.length]; exact hz, fun p hp => ?_⟩
    exact newTup S' hp rds q fun v H2 Own2 d S2 l2 rd hq => ok v H2 Own2 env' d S2 (l'.trans l2) rd hq
  · cases h
theorem sound_lstD (hn : noPk as = true) (h : shLst e = some es) (pe : PEs X es (ops X.K X.mg Γ W as)) : PE X e (TXF X.K X.mg Γ W (.pr .lstD as)) := by
  unfold shLst at h
  split at h
  · cases h
    refine PE.imp (pe_lst pe.pa) fun σ H R hx => ?_
    obtain ⟨Fo, fx, Own, env, Q, E, S, hw, ok, ke⟩ := hx
    simp only [wpE] at hw
    refine args_nestV as hn S hw (fun vs H' Own' env' ds S' l' rds q => ?_) ke
    obtain ⟨hz, q⟩ := q
    refine ⟨by rw [rds.length]; exact hz, fun p hp => ?_⟩
    have np : ∀ i, isOwn (getS env' i) → σ[i]? ≠ some (some (.ref p)) := fun i hi ee => by
      cases q : getS env' i with
      | own xs =>
        obtain ⟨a, us, e1, _, e3, _⟩ := S'.own q
        rw [ee] at e1; cases e1
        rw [hp] at e3; cases e3
      | un => rw [q] at hi; exact hi
      | val d => rw [q] at hi; exact hi
    exact ok p _ _ env' ds vs (S'.newOwn hp) (l'.trans (Le.newOwn hp)) (.inr rfl) upd_same (Reps.le (Le.newOwn hp) S'.ok ds vs rds) np
      (fun o f => by obtain ⟨_, h2, _⟩ := S'.fo p o f; rw [hp] at h2; cases h2) q
  · cases h
theorem sound_lstOf (C : Cok X c Γ W) (h : shCall1 c X.env.scope "list" e = some es) (pe : PEs X es (ops X.K X.mg Γ W as)) : PE X e (TXF X.K X.mg Γ W (.pr .lstOf as)) := by
  obtain ⟨f, a, q, q2, rfl, rfl, b⟩ := shCall1_of C h
  obtain ⟨ta, et, ha, na⟩ := pe.one
  obtain rfl := b.e
  exact pe_prF (r := rLstOf X.K) (by rw [et]; exact pe_callTy call_list_of b.gl b.no PyProof.Rows.boot_list (pa_cons ha pa_nil (star_nice na)) (by decide) b.db (star_nice na) rfl) sim_lstOf
theorem sound_pr (C : Cok X c Γ W) : ∀ (p : Pr) {as : As} {e : Expr} {es : List Expr}, (!isDisp p || noPk as) = true → shape c X.env.scope p e = some es → PEs X es (ops X.K X.mg Γ W as) → PE X e (TX X.K X.mg Γ W (.pr p as))
  | .add, _, _, _, _, h, pe => sound_bin op_addA sim_add h pe
  | .sub, _, _, _, _, h, pe => sound_bin op_subT sim_int h pe
  | .mul, _, _, _, _, h, pe => sound_bin op_mulA sim_mul h pe
  | .fdiv, _, _, _, _, h, pe => sound_bin op_divA sim_int h pe
  | .mod, _, _, _, _, h, pe => sound_bin op_mod sim_int h pe
  | .pow, _, _, _, _, h, pe => sound_bin op_pow sim_int h pe
  | .shl, _, _, _, _, h, pe => sound_bin op_shl sim_int h pe
  | .neg, _, e, _, _, h, pe => by
    have h' : shNeg e = some _ := h
    unfold shNeg at h'
    split at h'
    · cases h'
      obtain ⟨ta, et, ha, _⟩ := pe.one
      exact pe_pr (r := r1 (rU fun i => .int (-i))) (by rw [et]; exact pe_un un_neg ha) sim_neg
    · cases h'
  | .eq, _, _, _, _, h, pe => sound_cmp (op_eqD C.units) sim_eq h pe (by decide) (by decide)
  | .ne, _, _, _, _, h, pe => sound_cmp (op_neD C.units) sim_ne h pe (by decide) (by decide)
  | .lt, _, _, _, _, h, pe => sound_cmp (op_ltA (by have := C.units; omega)) sim_lt h pe (by decide) (by decide)
  | .le, _, _, _, _, h, pe => sound_cmp op_le sim_cmp h pe (by decide) (by decide)
  | .gt, _, _, _, _, h, pe => sound_cmp op_gt sim_cmp h pe (by decide) (by decide)
  | .ge, _, _, _, _, h, pe => sound_cmp op_ge sim_cmp h pe (by decide) (by decide)
  | .isN, _, _, _, _, h, pe => sound_is (.inl ⟨rfl, rfl⟩) rfl h pe
  | .notN, _, _, _, _, h, pe => sound_is (.inr ⟨rfl, rfl⟩) rfl h pe
  | .in_, _, _, _, _, h, _ => by cases h
  | .notin, _, _, _, _, h, _ => by cases h
  | .len, _, _, _, _, h, pe => sound_call1 C call_len sim_len PySem.boot_len (by decide) h pe
  | .abs, _, _, _, _, h, pe => sound_call1 C call_abs sim_abs PyProof.Rows.boot_abs (by decide) h pe
  | .int, _, _, _, _, h, pe => sound_callT C call_int1 sim_int1 PyProof.Rows.boot_int (by decide) h pe
  | .bool, _, _, _, _, h, pe => sound_callT C call_bool1 sim_bool1 (by decide +kernel) (by decide) h pe
  | .max2, _, _, _, _, h, pe => sound_call2 C (call_max2 C.calm) sim_two (by decide +kernel) (by decide) h pe
  | .min2, _, _, _, _, h, pe => sound_call2 C (call_min2 C.calm) sim_two (by decide +kernel) (by decide) h pe
  | .sum, _, _, _, _, h, pe => sound_call1 C (cr_sumA C.calm) sim_sum PyProof.Rows.boot_sum (by decide) h pe
  | .all, _, _, _, _, h, pe => sound_call1 C (cr_all C.calm) sim_all (by decide +kernel) (by decide) h pe
  | .any, _, _, _, _, h, pe => sound_call1 C (cr_any C.calm) sim_any (by decide +kernel) (by decide) h pe
  | .max1, _, _, _, _, h, pe => sound_call1 C (cr_maxA C.calm) sim_max (by decide +kernel) (by decide) h pe
  | .min1, _, _, _, _, h, pe => sound_call1 C (cr_minA C.calm) sim_min (by decide +kernel) (by decide) h pe
  | .sorted, _, _, _, _, h, _ => by cases h
  | .tupOf, _, _, _, _, h, pe => sound_callT C call_tuple_of sim_tupOf PyProof.Rows.boot_tuple (by decide) h pe
  | .lstOf, _, _, _, _, h, pe => sound_callT C call_list_of sim_lstOf.sim PyProof.Rows.boot_list (by decide) h pe
  | .isi t, _, _, _, _, h, pe => sound_isi C h pe
  | .ix, _, _, _, _, h, pe => sound_ix h pe
  | .slc lo hi, _, _, _, _, h, pe => sound_slc h pe
  | .tupD, _, _, _, hn, h, pe => sound_tupD (by simpa [isDisp] using hn) h pe
  | .lstD, _, _, _, hn, h, pe => Pd.PE.ofF (sound_lstD (by simpa [isDisp] using hn) h pe)
end
/-! ### tests -/
section
variable {X : Cx} {c : Ck} {Γ : Gam} {W : WX} {as : As} {e : Expr} {es : List Expr}
theorem pt_pr {p : Pr} {r : List V → Hp → VK → Prop} (h : PT X e fun σ H R => nest (ops X.K X.mg Γ W as) σ H fun vs H1 => r vs H1 fun x H' => ∃ k, x = .bl k ∧ R k H') (s : PSim X r p.w) : PT X e (TT' X.K X.mg Γ W (.cmp p as)) := by
  refine PT.imp h fun σ H R hx => ?_
  obtain ⟨Fo, fx, Own, env, Q, E, S, hw, ok, ke⟩ := hx
  simp only [wpT] at hw
  refine args_nest as S hw (fun vs H' Own' env' ds S' l' rds q => ?_) ke
  refine s Fo fx σ H' Own' env' ds vs _ _ S' rds q fun v H2 Own2 d S2 l2 rd hq => ?_
  obtain ⟨k, rfl, hq⟩ := hq
  simp only [Rep] at rd
  exact ⟨k, rd, ok k H2 Own2 env' S2 (l'.trans l2) hq⟩
theorem soundT_cmp {op : CmpOp} {p : Pr} {r : R2} (ho : OpR X (compareOp op) r) (hs : PSim X (r2 r) p.w) (h : shCmp op e = some es) (pe : PEs X es (ops X.K X.mg Γ W as)) (n1 : op ≠ .In) (n2 : op ≠ .NotIn) : PT X e (TT' X.K X.mg Γ W (.cmp p as)) := by
  obtain ⟨a, b, q, rfl, rfl⟩ := shCmp_of h
  obtain ⟨ta, tb, et, ha, hb, _⟩ := pe.two
  exact pt_pr (r := r2 r) (by rw [et]; exact pt_cmpR ho ha hb (nomark b n1 n2)) hs
theorem soundT_is {op : CmpOp} {p : Pr} {f : Bool → Bool} (hop : (op = .Is ∧ f = id) ∨ (op = .IsNot ∧ f = not)) (hp : p.w = pIsN f) (h : shIs op e = some es) (pe : PEs X es (ops X.K X.mg Γ W as)) : PT X e (TT' X.K X.mg Γ W (.cmp p as)) := by
  obtain ⟨a, k, q, q2, rfl, rfl⟩ := shIs_of h
  obtain ⟨ta, et, ha, _⟩ := pe.one
  refine pt_pr (r := r1 (rIsN f)) ?_ (by rw [hp]; exact sim_isN)
  rw [et]
  rcases hop with ⟨rfl, rfl⟩ | ⟨rfl, rfl⟩
  · exact pt_cmp (pc_isN ha) rfl
  · exact pt_cmp (pc_notN ha) rfl
theorem sound_prT (C : Cok X c Γ W) : ∀ (p : Pr) {as : As} {e : Expr} {es : List Expr}, isCmp p = true → shape c X.env.scope p e = some es → PEs X es (ops X.K X.mg Γ W as) → PT X e (TT' X.K X.mg Γ W (.cmp p as))
  | .eq, _, _, _, _, h, pe => soundT_cmp (op_eqD C.units) sim_eq h pe (by decide) (by decide)
  | .ne, _, _, _, _, h, pe => soundT_cmp (op_neD C.units) sim_ne h pe (by decide) (by decide)
  | .lt, _, _, _, _, h, pe => soundT_cmp (op_ltA (by have := C.units; omega)) sim_lt h pe (by decide) (by decide)
  | .le, _, _, _, _, h, pe => soundT_cmp op_le sim_cmp h pe (by decide) (by decide)
  | .gt, _, _, _, _, h, pe => soundT_cmp op_gt sim_cmp h pe (by decide) (by decide)
  | .ge, _, _, _, _, h, pe => soundT_cmp op_ge sim_cmp h pe (by decide) (by decide)
  | .isN, _, _, _, _, h, pe => soundT_is (.inl ⟨rfl, rfl⟩) rfl h pe
  | .notN, _, _, _, _, h, pe => soundT_is (.inr ⟨rfl, rfl⟩) rfl h pe
  | .add, _, _, _, n, _, _ => by cases n
  | .sub, _, _, _, n, _, _ => by cases n
  | .mul, _, _, _, n, _, _ => by cases n
  | .fdiv, _, _, _, n, _, _ => by cases n
  | .mod, _, _, _, n, _, _ => by cases n
  | .pow, _, _, _, n, _, _ => by cases n
  | .shl, _, _, _, n, _, _ => by cases n
  | .neg, _, _, _, n, _, _ => by cases n
  | .in_, _, _, _, n, _, _ => by cases n
  | .notin, _, _, _, n, _, _ => by cases n
  | .len, _, _, _, n, _, _ => by cases n
  | .abs, _, _, _, n, _, _ => by cases n
  | .int, _, _, _, n, _, _ => by cases n
  | .bool, _, _, _, n, _, _ => by cases n
  | .max2, _, _, _, n, _, _ => by cases n
  | .min2, _, _, _, n, _, _ => by cases n
  | .sum, _, _, _, n, _, _ => by cases n
  | .all, _, _, _, n, _, _ => by cases n
  | .any, _, _, _, n, _, _ => by cases n
  | .max1, _, _, _, n, _, _ => by cases n
  | .min1, _, _, _, n, _, _ => by cases n
  | .sorted, _, _, _, n, _, _ => by cases n
  | .tupOf, _, _, _, n, _, _ => by cases n
  | .lstOf, _, _, _, n, _, _ => by cases n
  | .isi t, _, _, _, n, _, _ => by cases n
  | .ix, _, _, _, n, _, _ => by cases n
  | .slc _ _, _, _, _, n, _, _ => by cases n
  | .tupD, _, _, _, n, _, _ => by cases n
  | .lstD, _, _, _, n, _, _ => by cases n
/-- truth -/
theorem truV_of {K : PySem.W.Frag} {mg : Str → Option Value} {H : Hp} {Own : Addr → Prop} {d : D} {v : V} {k : Bool} (h : Rep K mg H Own d v) (e : truth d = some k) : TruV K v H k := by
  cases d with
  | non => simp only [Rep] at h; subst h; cases e; exact Eq.refl _
  | bl b => simp only [Rep] at h; subst h; cases e; exact Eq.refl _
  | int i => simp only [Rep] at h; subst h; cases e; exact Eq.refl _
  | str x => cases e
  | tup ds =>
    simp only [Rep] at h
    obtain ⟨a, vs, rfl, q, r⟩ := h
    cases e
    refine .inr (.inl ⟨vs, q, ?_⟩)
    have := r.length
    cases ds <;> cases vs <;> first | rfl | (simp at this)
  | lst ds =>
    simp only [Rep] at h
    obtain ⟨a, vs, rfl, _, q, r⟩ := h
    cases e
    refine .inl ⟨vs, SqL.of q, ?_⟩
    have := r.length
    cases ds <;> cases vs <;> first | rfl | (simp at this)
  | scr _ => cases e
  | ins _ _ _ => cases e
theorem soundT_e {a : Ex} (hp : plainT e = true) (h : PE X e (TX X.K X.mg Γ W a)) : PT X e (TT' X.K X.mg Γ W (.e a)) := by
  refine PT.imp (pt_truth h fun whole => ?_) fun σ H R hx => ?_
  · cases e <;> first
      | rfl
      | (cases hp)
      | (rename_i o _ _; cases o <;> first | rfl | (cases hp))
  · obtain ⟨Fo, fx, Own, env, Q, E, S, hw, ok, ke⟩ := hx
    simp only [wpT] at hw
    refine ⟨Fo, fx, Own, env, _, E, S, hw, fun v H1 Own1 env1 d S1 l1 rd hq => ?_, ke⟩
    obtain ⟨k, e1, hq⟩ := hq
    exact ⟨k, truV_of rd e1, ok k H1 Own1 env1 S1 l1 hq⟩
/-! ### chains -/
theorem cmp_chain (C : Cok X c Γ W) {p : Pr} {op : CmpOp} (h : cmpOf p = some op) : ∃ r, OpR X (compareOp op) r ∧ PSim X (r2 r) p.w := by
  cases p <;> first
    | (cases h; done)
    | skip
  · cases h; exact ⟨_, op_ltA (by have := C.units; omega), sim_lt⟩
  · cases h; exact ⟨_, op_le, sim_cmp⟩
  · cases h; exact ⟨_, op_gt, sim_cmp⟩
  · cases h; exact ⟨_, op_ge, sim_cmp⟩
end
end Pd

set_option Elab.async false
set_option linter.all false
set_option maxRecDepth 100000
/-! PyD, part 10: soundness of the check for expressions, all together. -/
namespace Pd
open PySem PySem.Spec L2
abbrev St := L2.St
section
variable {c : Ck} {sc : Scope} {e : Expr}
theorem inv_var {i : Nat} (h : okE c sc (.var i) e = true) : ∃ x p, e = .Name x p ∧ okVar c sc i x = true := by
  unfold okE at h
  split at h <;> (try (rename_i heq; cases heq)) <;> first | (cases h; done) | skip
  exact ⟨_, _, rfl, h⟩
theorem inv_int {i : Int} (h : okE c sc (.int i) e = true) : ∃ k p, e = .Constant (.int i) k p := by
  unfold okE at h
  split at h <;> (try (rename_i heq; cases heq)) <;> first | (cases h; done) | skip
  have := of_decide_eq_true h
  subst this
  exact ⟨_, _, rfl⟩
theorem inv_bl {i : Bool} (h : okE c sc (.bl i) e = true) : ∃ k p, e = .Constant (.bool i) k p := by
  unfold okE at h
  split at h <;> (try (rename_i heq; cases heq)) <;> first | (cases h; done) | skip
  have := eq_of_beq h
  subst this
  exact ⟨_, _, rfl⟩
theorem inv_non (h : okE c sc .non e = true) : ∃ k p, e = .Constant .none k p := by
  unfold okE at h
  split at h <;> (try (rename_i heq; cases heq)) <;> first | (cases h; done) | skip
  exact ⟨_, _, rfl⟩
theorem inv_str {i : Str} (h : okE c sc (.str i) e = true) : ∃ k p, e = .Constant (.str i) k p := by
  unfold okE at h
  split at h <;> (try (rename_i heq; cases heq)) <;> first | (cases h; done) | skip
  have := of_decide_eq_true h
  subst this
  exact ⟨_, _, rfl⟩
theorem inv_conI {x : Str} {n : Int} (h : okE c sc (.conI x n) e = true) : ∃ p, e = .Name x p ∧ okGl sc x = true ∧ (x, n) ∈ c.CI := by
  unfold okE at h
  split at h <;> (try (rename_i heq; cases heq)) <;> first | (cases h; done) | skip
  simp only [Bool.and_eq_true, decide_eq_true_eq] at h
  obtain ⟨⟨rfl, h2⟩, h3⟩ := h
  exact ⟨_, rfl, h2, h3⟩
theorem inv_conT {x : Str} {n : List Int} (h : okE c sc (.conT x n) e = true) : ∃ p, e = .Name x p ∧ okGl sc x = true ∧ (x, n) ∈ c.CT := by
  unfold okE at h
  split at h <;> (try (rename_i heq; cases heq)) <;> first | (cases h; done) | skip
  simp only [Bool.and_eq_true, decide_eq_true_eq] at h
  obtain ⟨⟨rfl, h2⟩, h3⟩ := h
  exact ⟨_, rfl, h2, h3⟩
theorem inv_pr {p : Pr} {as : As} (h : okE c sc (.pr p as) e = true) : ∃ es, shape c sc p e = some es ∧ okAs c sc as es = true ∧ (!isDisp p || noPk as) = true := by
  unfold okE at h
  split at h
  · rename_i es hs
    rw [Bool.and_eq_true] at h
    exact ⟨es, hs, h.1, h.2⟩
  · cases h
theorem inv_call {f : Nat} {as : As} (h : okE c sc (.call f as) e = true) : ∃ x p a args q, e = .Call (.Name x p) (a :: args) [] q ∧ c.Gn[f]? = some (x, (a :: args).length) ∧ okGl sc x = true ∧ (pks as).Nodup ∧ okAs c sc as (a :: args) = true := by
  unfold okE at h
  split at h <;> (try (rename_i heq; cases heq)) <;> first | (cases h; done) | skip
  simp only [Bool.and_eq_true, decide_eq_true_eq] at h
  exact ⟨_, _, _, _, _, rfl, h.1.1.1, h.1.1.2, h.1.2, h.2⟩
theorem inv_ife {t : Ts} {a b : Ex} (h : okE c sc (.ife t a b) e = true) : ∃ t' a' b' p, e = .IfExp t' a' b' p ∧ okT c sc t t' = true ∧ okE c sc a a' = true ∧ okE c sc b b' = true := by
  unfold okE at h
  split at h <;> (try (rename_i heq; cases heq)) <;> first | (cases h; done) | skip
  simp only [Bool.and_eq_true] at h
  exact ⟨_, _, _, _, rfl, h.1.1, h.1.2, h.2⟩
theorem inv_ands {l : As} (h : okE c sc (.ands l) e = true) : ∃ es p, e = .BoolOp .And es p ∧ okAs c sc l es = true ∧ noPk l = true := by
  unfold okE at h
  split at h <;> (try (rename_i heq; cases heq)) <;> first | (cases h; done) | skip
  simp only [Bool.and_eq_true] at h
  exact ⟨_, _, rfl, h.1, h.2⟩
theorem inv_ors {l : As} (h : okE c sc (.ors l) e = true) : ∃ es p, e = .BoolOp .Or es p ∧ okAs c sc l es = true ∧ noPk l = true := by
  unfold okE at h
  split at h <;> (try (rename_i heq; cases heq)) <;> first | (cases h; done) | skip
  simp only [Bool.and_eq_true] at h
  exact ⟨_, _, rfl, h.1, h.2⟩
theorem inv_not {a : Ex} (h : okE c sc (.not_ a) e = true) : ∃ a' p, e = .UnaryOp .Not a' p ∧ okE c sc a a' = true := by
  unfold okE at h
  split at h <;> (try (rename_i heq; cases heq)) <;> first | (cases h; done) | skip
  exact ⟨_, _, rfl, h⟩
theorem inv_chain {p q : Pr} {x y z : Ex} (h : okE c sc (.chain p q x y z) e = true) : ∃ x' o1 o2 y' z' pos, e = .Compare x' [o1, o2] [y', z'] pos ∧ cmpOf p = some o1 ∧ cmpOf q = some o2 ∧ okE c sc x x' = true ∧ okE c sc y y' = true ∧ okE c sc z z' = true := by
  unfold okE at h
  split at h <;> (try (rename_i heq; cases heq)) <;> first | (cases h; done) | skip
  simp only [Bool.and_eq_true, decide_eq_true_eq] at h
  exact ⟨_, _, _, _, _, _, rfl, h.1.1.1.1, h.1.1.1.2, h.1.1.2, h.1.2, h.2⟩
theorem inv_comp {vs : List Nat} {tg : Tg} {it : Pd.It} {ts : Tss} {a : Ex} (h : okE c sc (.comp vs tg it ts a) e = true) : ∃ elt tgt iter ifs scope pos, e = .ListComp elt [⟨tgt, iter, ifs, 0⟩] scope pos ∧
    okI c sc it tgt iter = true ∧ blkC c.N sc scope (ownOf c vs) = true ∧ (ownOf c vs).map (·.2) = vs ∧ (∀ i ∈ tgs tg, i ∈ vs) ∧ okTg c (locB scope) tg tgt = true ∧ ifs.length ≤ 1 ∧ okTs c (relS scope sc) ts ifs = true ∧ okE c (relS scope sc) a elt = true ∧ nice iter = true := by
  unfold okE at h
  split at h <;> (try (rename_i heq; cases heq)) <;> first | (cases h; done) | skip
  simp only [Bool.and_eq_true, decide_eq_true_eq, List.all_eq_true] at h
  obtain ⟨⟨⟨⟨⟨⟨⟨⟨h1, h2⟩, h3⟩, h4⟩, h5⟩, h6⟩, h7⟩, h8⟩, h9⟩ := h
  exact ⟨_, _, _, _, _, _, rfl, h1, h2, h3, fun i hi => by simpa using h4 i hi, h5, h6, h7, h8, h9⟩
theorem inv_popAt {i : Nat} {k : Ex} (h : okE c sc (.popAt i k) e = true) : ∃ x p apos k' cpos, e = .Call (.Attribute (.Name x p) "pop" apos) [k'] [] cpos ∧ okVar c sc i x = true ∧ (apos.endLine == cpos.line) = true ∧ okE c sc k k' = true ∧ nice k' = true := by
  unfold okE at h
  split at h <;> (try (rename_i heq; cases heq)) <;> first | (cases h; done) | skip
  simp only [Bool.and_eq_true, decide_eq_true_eq] at h
  obtain ⟨⟨⟨⟨h1, rfl⟩, h3⟩, h4⟩, h5⟩ := h
  exact ⟨_, _, _, _, _, rfl, h1, h3, h4, h5⟩
theorem inv_pop {i : Nat} (h : okE c sc (.pop i) e = true) : ∃ x p apos cpos, e = .Call (.Attribute (.Name x p) "pop" apos) [] [] cpos ∧ okVar c sc i x = true ∧ (apos.endLine == cpos.line) = true := by
  unfold okE at h
  split at h <;> (try (rename_i heq; cases heq)) <;> first | (cases h; done) | skip
  simp only [Bool.and_eq_true, decide_eq_true_eq] at h
  obtain ⟨⟨h1, rfl⟩, h3⟩ := h
  exact ⟨_, _, _, _, rfl, h1, h3⟩
theorem inv_slc2 {x l u : Ex} (h : okE c sc (.slc2 x l u) e = true) : ∃ x' l' u' p q, e = .Subscript x' (.Slice (some l') (some u') none p) q ∧ okE c sc x x' = true ∧ okE c sc l l' = true ∧ okE c sc u u' = true := by
  unfold okE at h
  split at h <;> (try (rename_i heq; cases heq)) <;> first | (cases h; done) | skip
  simp only [Bool.and_eq_true] at h
  exact ⟨_, _, _, _, _, rfl, h.1.1, h.1.2, h.2⟩
theorem inv_rg1 {t : Bool} {a : Ex} (h : okE c sc (.rg1 t a) e = true) : ∃ f p g p2 x q q2, e = .Call (.Name f p) [.Call (.Name g p2) [x] [] q] [] q2 ∧ bi c sc f (if t then "tuple" else "list") = true ∧ bi c sc g "range" = true ∧ nice x = true ∧ okE c sc a x = true := by
  unfold okE at h
  split at h <;> (try (rename_i heq; cases heq)) <;> first | (cases h; done) | skip
  simp only [Bool.and_eq_true] at h
  exact ⟨_, _, _, _, _, _, _, rfl, h.1.1.1, h.1.1.2, h.1.2, h.2⟩
theorem inv_rg2 {t : Bool} {a b : Ex} (h : okE c sc (.rg2 t a b) e = true) : ∃ f p g p2 x y q q2, e = .Call (.Name f p) [.Call (.Name g p2) [x, y] [] q] [] q2 ∧ bi c sc f (if t then "tuple" else "list") = true ∧ bi c sc g "range" = true ∧ nice x = true ∧ nice y = true ∧ okE c sc a x = true ∧ okE c sc b y = true := by
  unfold okE at h
  split at h <;> (try (rename_i heq; cases heq)) <;> first | (cases h; done) | skip
  simp only [Bool.and_eq_true] at h
  exact ⟨_, _, _, _, _, _, _, _, rfl, h.1.1.1.1.1, h.1.1.1.1.2, h.1.1.1.2, h.1.1.2, h.1.2, h.2⟩
theorem rgV_eq {K : PySem.W.Frag} {mg : Str → Option Value} {H : Hp} {Own : Addr → Prop} (a b : Int) : Reps K mg H Own (rngD a (b - a).toNat) (rgV a b) := by
  have e1 : rngD a (b - a).toNat = ((List.range (b - a).toNat).map fun i => a + (i : Nat)).map .int := by unfold rngD; rw [List.map_map]; rfl
  have e2 : rgV a b = ((List.range (b - a).toNat).map fun i => a + (i : Nat)).map .int := by unfold rgV; rw [List.map_map]; rfl
  rw [e1, e2]
  exact Reps.of_ints _
/-- list(range), tuple(range) -/
theorem sound_rg {X : Cx} {c : Ck} {Γ : Gam} {W : WX} (C : Cok X c Γ W) {t : Bool} {f : Str} {p pos : Pos} {e : Expr} {te : St → Hp → (Int → Int → Hp → Prop) → Prop} {u : TE} (hb : bi c X.env.scope f (if t then "tuple" else "list") = true) (he : PRg X e te) (hn : nice e = true)
    (k : ∀ σ H R, u σ H R → te σ H fun a b H1 => RgOk a b ∧ ∃ Fo fx σ' Own env, SOk X.K X.mg Fo fx σ' H1 Own env ∧ ∀ v H2 Own2, SOk X.K X.mg Fo fx σ' H2 Own2 env → Le H1 Own H2 Own2 → Rep X.K X.mg H2 Own2 (mkSeq t (rngD a (b - a).toNat)) v → R v H2)
    (mono : ∀ σ H (P P' : Int → Int → Hp → Prop), (∀ a b H1, P a b H1 → P' a b H1) → te σ H P → te σ H P') : PE X (.Call (.Name f p) [e] [] pos) u := by
  have b := bi_ok C hb
  obtain rfl := b.e
  cases t with
  | true =>
    refine PE.imp (pe_tupRg C.calm b.gl b.no he (star_nice hn)) fun σ H R hx => mono _ _ _ _ (fun x y H1 hh => ?_) (k σ H R hx)
    obtain ⟨ok, Fo, fx, σ', Own, env, S, kk⟩ := hh
    exact ⟨ok, fun q hq => kk _ _ Own (S.new hq) (Le.new hq) (Rep.tup_of (.inl (.inl upd_same)) (rgV_eq x y))⟩
  | false =>
    refine PE.imp (pe_listRg C.calm b.gl b.no he (star_nice hn)) fun σ H R hx => mono _ _ _ _ (fun x y H1 hh => ?_) (k σ H R hx)
    obtain ⟨ok, Fo, fx, σ', Own, env, S, kk⟩ := hh
    exact ⟨ok, fun q hq => kk _ _ Own (S.new hq) (Le.new hq) (Rep.lst_of (S.ok.none hq) upd_same (rgV_eq x y))⟩
theorem invT_cmp {p : Pr} {as : As} (h : okT c sc (.cmp p as) e = true) : ∃ es, shape c sc p e = some es ∧ isCmp p = true ∧ okAs c sc as es = true := by
  unfold okT at h
  split at h
  · rename_i es hs
    rw [Bool.and_eq_true] at h
    exact ⟨es, hs, h.1, h.2⟩
  · cases h
theorem invT_ands {l : Tss} (h : okT c sc (.ands l) e = true) : ∃ a es p, e = .BoolOp .And (a :: es) p ∧ okTs c sc l (a :: es) = true := by
  unfold okT at h
  split at h <;> (try (rename_i heq; cases heq)) <;> first | (cases h; done) | skip
  exact ⟨_, _, _, rfl, h⟩
theorem invT_ors {l : Tss} (h : okT c sc (.ors l) e = true) : ∃ a es p, e = .BoolOp .Or (a :: es) p ∧ okTs c sc l (a :: es) = true := by
  unfold okT at h
  split at h <;> (try (rename_i heq; cases heq)) <;> first | (cases h; done) | skip
  exact ⟨_, _, _, rfl, h⟩
theorem invT_not {t : Ts} (h : okT c sc (.not_ t) e = true) : ∃ a p, e = .UnaryOp .Not a p ∧ okT c sc t a = true := by
  unfold okT at h
  split at h <;> (try (rename_i heq; cases heq)) <;> first | (cases h; done) | skip
  exact ⟨_, _, rfl, h⟩
theorem invT_chain {p q : Pr} {x y z : Ex} (h : okT c sc (.chain p q x y z) e = true) : ∃ x' o1 o2 y' z' pos, e = .Compare x' [o1, o2] [y', z'] pos ∧ cmpOf p = some o1 ∧ cmpOf q = some o2 ∧ okE c sc x x' = true ∧ okE c sc y y' = true ∧ okE c sc z z' = true := by
  unfold okT at h
  split at h <;> (try (rename_i heq; cases heq)) <;> first | (cases h; done) | skip
  simp only [Bool.and_eq_true, decide_eq_true_eq] at h
  exact ⟨_, _, _, _, _, _, rfl, h.1.1.1.1, h.1.1.1.2, h.1.1.2, h.1.2, h.2⟩
theorem invT_e {a : Ex} (h : okT c sc (.e a) e = true) : plainT e = true ∧ okE c sc a e = true := by
  unfold okT at h
  rw [Bool.and_eq_true] at h
  exact h
theorem okTs_nil {es : List Expr} (h : okTs c sc .nil es = true) : es = [] := by
  cases es with
  | nil => rfl
  | cons => simp [okTs] at h
theorem okTs_cons {t : Ts} {r : Tss} {es : List Expr} (h : okTs c sc (.cons t r) es = true) : ∃ e es', es = e :: es' ∧ okT c sc t e = true ∧ okTs c sc r es' = true := by
  cases es with
  | nil => simp [okTs] at h
  | cons e es' =>
    simp only [okTs, Bool.and_eq_true] at h
    exact ⟨e, es', rfl, h.1, h.2⟩
end
theorem lookup_rel {scope sc : Scope} {x : Str} {k : NameKind} (hk : k ≠ .free) (h : scope.names.lookup x = some k) : (relS scope sc).names.lookup x = some k := lookup_relS_keep hk h

theorem pts_none {X : Cx} {Γ : Gam} {W : WX} : PTs X [] (TTs X.K X.mg Γ W true .nil) := by
  refine ⟨fun pins s' σ H' Q I hx => pts_nil.run pins s' σ H' Q I ?_⟩
  obtain ⟨Fo, fx, Own, env, Q', E, S, hw, ok, ke⟩ := hx
  simp only [wpTss] at hw
  exact ok true H' Own env S Le.refl hw
theorem pts_some {X : Cx} {Γ : Gam} {W : WX} {t : Ts} {e : Expr} (ht : PT X e (TT' X.K X.mg Γ W t)) : PTs X [e] (TTs X.K X.mg Γ W true (.cons t .nil)) := by
  refine ⟨fun pins s' σ H' Q I hx => (pts_one ht).run pins s' σ H' Q I ?_⟩
  obtain ⟨Fo, fx, Own, env, Q', E, S, hw, ok, ke⟩ := hx
  simp only [wpTss] at hw
  refine ⟨Fo, fx, Own, env, _, E, S, hw, fun k H1 Own1 env1 S1 l1 hq => ?_, ke⟩
  cases k with
  | true => exact ok true H1 Own1 env1 S1 l1 (hq.1 rfl)
  | false => exact ok false H1 Own1 env1 S1 l1 (hq.2 rfl)
theorem storeOk_loc {X : Cx} {s : Shared} {H : Hp} {scope : Scope} {D : Addr} {cl : List (Str × Addr)} {fp : List Addr} : StoreOk (X.blk s H scope (compEnvC scope cl D X.env) fp) (locB scope) := fun x hx => by
  unfold locB at hx
  split at hx
  · rename_i hl
    exact ⟨.inl (lookup_rel (by decide) hl), .inr (lookup_rel (by decide) hl)⟩
  · rename_i hl
    refine ⟨.inr (lookup_rel (by decide) hl), .inl ?_⟩
    show (scope.names.lookup x == some .cell) = true
    rw [hl]; rfl
  · cases hx
theorem pd_comp {X : Cx} {c : Ck} {Γ : Gam} {W : WX} {vs : List Nat} {tg : Tg} {it : Pd.It} {ts : Tss} {a : Ex} {elt tgt iter : Expr} {ifs : List Expr} {scope : Scope} {pos : Pos} (C : Cok X c Γ W)
    (h2 : blkC c.N X.env.scope scope (ownOf c vs) = true) (h3 : (ownOf c vs).map (·.2) = vs) (h4 : ∀ i ∈ tgs tg, i ∈ vs) (h5 : okTg c (locB scope) tg tgt = true) (h9 : nice iter = true)
    (hi : PI X tgt iter (TIt X.K X.mg Γ W it))
    (ht : ∀ (Y : Cx), Cok Y c Γ Wf → Y.env.scope = relS scope X.env.scope → PTs Y ifs (TTs Y.K Y.mg Γ Wf true ts))
    (ha : ∀ (Y : Cx), Cok Y c Γ Wf → Y.env.scope = relS scope X.env.scope → PE Y elt (TX Y.K Y.mg Γ Wf a)) : PE X (.ListComp elt [⟨tgt, iter, ifs, 0⟩] scope pos) (TXF X.K X.mg Γ W (.comp vs tg it ts a)) := by
  have blk : ∀ (s : Shared) (H : Hp) (D : Addr) (cl : List (Str × Addr)) (fp : List Addr), Cok (X.blk s H scope (compEnvC scope cl D X.env) fp) c Γ Wf := fun s H D cl fp =>
    ⟨C.N, C.nd, C.calm, C.units, C.fns, C.gn, C.bl, C.cons, takesF⟩
  exact sound_comp (own := ownOf c vs) C.calm C.nd hi (blkOk_by (by rw [C.N]; exact h2)) h3 h4
    (fun s H D cl fp => pg_tg (X := X.blk s H scope (compEnvC scope cl D X.env) fp) C.N C.nd C.calm storeOk_loc h5)
    (fun s H D cl fp => ht _ (blk s H D cl fp) rfl) (fun s H D cl fp => ha _ (blk s H D cl fp) rfl) (folded_nice h9)

mutual
theorem sE {c : Ck} {Γ : Gam} : ∀ (ie : Ex) {X : Cx} {W : WX} {e : Expr}, Cok X c Γ W → okE c X.env.scope ie e = true → PE X e (TX X.K X.mg Γ W ie)
  | .var i, X, W, e, C, h => by
    obtain ⟨x, p, rfl, hv⟩ := inv_var h
    refine PE.imp (ps_var C hv) fun σ H R hx => ?_
    obtain ⟨Fo, fx, Own, env, Q, E, S, hw, ok, ke⟩ := hx
    simp only [wpE] at hw
    cases q : getS env i with
    | un => rw [q] at hw; exact hw.elim
    | val d =>
      rw [q] at hw
      obtain ⟨v, e1, e2⟩ := S.val q
      exact ⟨v, e1, ok v H Own env d S Le.refl e2 hw⟩
    | own ds =>
      rw [q] at hw
      obtain ⟨Own', a, e1, S', l, r⟩ := S.freeze q
      exact ⟨.ref a, e1, ok _ H Own' _ _ S' l r hw⟩
  | .int n, X, W, e, C, h => by
    obtain ⟨k, p, rfl⟩ := inv_int h
    refine PE.imp pe_int fun σ H R hx => ?_
    obtain ⟨Fo, fx, Own, env, Q, E, S, hw, ok, ke⟩ := hx
    simp only [wpE] at hw
    exact ok _ H Own env (.int n) S Le.refl (by simp only [Rep]) hw
  | .bl n, X, W, e, C, h => by
    obtain ⟨k, p, rfl⟩ := inv_bl h
    refine PE.imp pe_bl fun σ H R hx => ?_
    obtain ⟨Fo, fx, Own, env, Q, E, S, hw, ok, ke⟩ := hx
    simp only [wpE] at hw
    exact ok _ H Own env (.bl n) S Le.refl (by simp only [Rep]) hw
  | .non, X, W, e, C, h => by
    obtain ⟨k, p, rfl⟩ := inv_non h
    refine PE.imp pe_non fun σ H R hx => ?_
    obtain ⟨Fo, fx, Own, env, Q, E, S, hw, ok, ke⟩ := hx
    simp only [wpE] at hw
    exact ok _ H Own env .non S Le.refl (by simp only [Rep]) hw
  | .str n, X, W, e, C, h => by
    obtain ⟨k, p, rfl⟩ := inv_str h
    refine PE.imp pe_str fun σ H R hx => ?_
    obtain ⟨Fo, fx, Own, env, Q, E, S, hw, ok, ke⟩ := hx
    simp only [wpE] at hw
    exact ok _ H Own env (.str n) S Le.refl (by simp only [Rep]) hw
  | .conI x n, X, W, e, C, h => by
    obtain ⟨p, rfl, hg, hm⟩ := inv_conI h
    obtain ⟨g1, g2⟩ := okGl_gl hg
    obtain ⟨t, ht⟩ := C.cons.ci _ hm
    refine PE.imp (pe_glob (v := .int n) g1 ht ⟨t, rfl⟩ g2) fun σ H R hx => ?_
    obtain ⟨Fo, fx, Own, env, Q, E, S, hw, ok, ke⟩ := hx
    simp only [wpE] at hw
    exact ok _ H Own env (.int n) S Le.refl (by simp only [Rep]) hw
  | .conT x ns, X, W, e, C, h => by
    obtain ⟨p, rfl, hg, hm⟩ := inv_conT h
    obtain ⟨g1, g2⟩ := okGl_gl hg
    obtain ⟨a, ha, hs⟩ := C.cons.ct _ hm
    refine PE.imp (pe_glob (v := .ref a) g1 ha rfl g2) fun σ H R hx => ?_
    obtain ⟨Fo, fx, Own, env, Q, E, S, hw, ok, ke⟩ := hx
    simp only [wpE] at hw
    exact ok _ H Own env _ S Le.refl (Rep.tup_of (hs H) (Reps.of_ints ns)) hw
  | .pr p as, X, W, e, C, h => by
    obtain ⟨es, hs, ha, hd⟩ := inv_pr h
    exact sound_pr C p hd hs (sAs as C ha)
  | .call f as, X, W, e, C, h => by
    obtain ⟨x, p, a, args, q, rfl, hf, hg, nd, ha⟩ := inv_call h
    exact sound_call C hf hg nd (sAs as C ha)
  | .ife t a b, X, W, e, C, h => by
    obtain ⟨t', a', b', p, rfl, h1, h2, h3⟩ := inv_ife h
    refine PE.imp (pe_ifExp (sT t C h1) (sE a C h2) (sE b C h3)) fun σ H R hx => ?_
    obtain ⟨Fo, fx, Own, env, Q, E, S, hw, ok, ke⟩ := hx
    simp only [wpE] at hw
    refine ⟨Fo, fx, Own, env, _, E, S, hw, fun k H1 Own1 env1 S1 l1 hq => ?_, ke⟩
    cases k with
    | true => exact L2.iteT ⟨Fo, fx, Own1, env1, Q, E, S1, hq.1 rfl, fun v H2 Own2 env2 d S2 l2 r q => ok v H2 Own2 env2 d S2 (l1.trans l2) r q, ke.le l1⟩
    | false => exact L2.iteF ⟨Fo, fx, Own1, env1, Q, E, S1, hq.2 rfl, fun v H2 Own2 env2 d S2 l2 r q => ok v H2 Own2 env2 d S2 (l1.trans l2) r q, ke.le l1⟩
  | .ands l, X, W, e, C, h => by
    obtain ⟨es, p, rfl, h1, h2⟩ := inv_ands h
    refine PE.imp (sAnds l C h1 h2) fun σ H R hx => ?_
    obtain ⟨Fo, fx, Own, env, Q, E, S, hw, ok, ke⟩ := hx
    simp only [wpE] at hw
    exact ⟨Fo, fx, Own, env, Q, E, S, hw, ok, ke⟩
  | .ors l, X, W, e, C, h => by
    obtain ⟨es, p, rfl, h1, h2⟩ := inv_ors h
    refine PE.imp (sOrs l C h1 h2) fun σ H R hx => ?_
    obtain ⟨Fo, fx, Own, env, Q, E, S, hw, ok, ke⟩ := hx
    simp only [wpE] at hw
    exact ⟨Fo, fx, Own, env, Q, E, S, hw, ok, ke⟩
  | .not_ a, X, W, e, C, h => by
    obtain ⟨a', p, rfl, h1⟩ := inv_not h
    refine PE.imp (pe_not (sE a C h1)) fun σ H R hx => ?_
    obtain ⟨Fo, fx, Own, env, Q, E, S, hw, ok, ke⟩ := hx
    simp only [wpE] at hw
    refine ⟨Fo, fx, Own, env, _, E, S, hw, fun v H1 Own1 env1 d S1 l1 r hq => ?_, ke⟩
    obtain ⟨b, rfl, hq⟩ := hq
    simp only [Rep] at r
    exact ⟨b, r, ok _ H1 Own1 env1 (.bl (!b)) S1 l1 (by simp only [Rep]) hq⟩
  | .chain p q x y z, X, W, e, C, h => by
    obtain ⟨x', o1, o2, y', z', pos, rfl, c1, c2, h1, h2, h3⟩ := inv_chain h
    obtain ⟨r1, ho1, s1⟩ := cmp_chain C c1
    obtain ⟨r2', ho2, s2⟩ := cmp_chain C c2
    have hm : lastMarks [o1, o2] [y', z'] = false := by
      show behindInMarks o2 z' = false
      exact nomark z' (by cases q <;> cases c2 <;> decide) (by cases q <;> cases c2 <;> decide)
    refine PE.imp (pe_chain ho1 ho2 (sE x C h1) (sE y C h2) (sE z C h3) hm) fun σ H R hx => ?_
    obtain ⟨Fo, fx, Own, env, Q, E, S, hw, ok, ke⟩ := hx
    simp only [wpE] at hw
    refine ⟨Fo, fx, Own, env, _, E, S, hw, fun v H1 Own1 env1 d S1 l1 rd hq => ?_, ke⟩
    refine ⟨Fo, fx, Own1, env1, _, E, S1, hq, fun u H2 Own2 env2 d2 S2 l2 ru hq => ?_, ke.le l1⟩
    refine s1 Fo fx σ H2 Own2 env2 [d, d2] [v, u] _ _ S2 ⟨v, [u], rfl, .inl (Rep.le l2 S1.ok d v rd), u, [], rfl, .inl ru, rfl⟩ hq fun w H3 Own3 d3 S3 l3 rw hq => ?_
    obtain ⟨k, rfl, hq⟩ := hq
    simp only [Rep] at rw
    refine ⟨k, rw, ?_⟩
    cases k with
    | false => exact L2.iteF (ok _ H3 Own3 env2 (.bl false) S3 ((l1.trans l2).trans l3) (by simp only [Rep]) (hq.2 rfl))
    | true =>
      refine L2.iteT ⟨Fo, fx, Own3, env2, _, E, S3, hq.1 rfl, fun t H4 Own4 env4 d4 S4 l4 rt hq => ?_, ke.le ((l1.trans l2).trans l3)⟩
      exact s2 Fo fx σ H4 Own4 env4 [d2, d4] [u, t] _ _ S4 ⟨u, [t], rfl, .inl (Rep.le (l3.trans l4) S2.ok d2 u ru), t, [], rfl, .inl rt, rfl⟩ hq fun w2 H5 Own5 d5 S5 l5 rw5 hq => ok w2 H5 Own5 env4 d5 S5 ((((l1.trans l2).trans l3).trans l4).trans l5) rw5 hq
  | .comp vs tg it .nil a, X, W, e, C, h => by
    obtain ⟨elt, tgt, iter, ifs, scope, pos, rfl, h1, h2, h3, h4, h5, h6, h7, h8, h9⟩ := inv_comp h
    obtain rfl := okTs_nil h7
    exact Pd.PE.ofF (pd_comp C h2 h3 h4 h5 h9 (sI it C h1) (fun Y D hs => pts_none) (fun Y D hs => by rw [← hs] at h8; exact sE a D h8))
  | .comp vs tg it (.cons t .nil) a, X, W, e, C, h => by
    obtain ⟨elt, tgt, iter, ifs, scope, pos, rfl, h1, h2, h3, h4, h5, h6, h7, h8, h9⟩ := inv_comp h
    obtain ⟨e1, es1, rfl, g1, g2⟩ := okTs_cons h7
    obtain rfl := okTs_nil g2
    exact Pd.PE.ofF (pd_comp C h2 h3 h4 h5 h9 (sI it C h1) (fun Y D hs => pts_some (by rw [← hs] at g1; exact sT t D g1)) (fun Y D hs => by rw [← hs] at h8; exact sE a D h8))
  | .comp vs tg it (.cons t (.cons u r)) a, X, W, e, C, h => by
    obtain ⟨elt, tgt, iter, ifs, scope, pos, rfl, h1, h2, h3, h4, h5, h6, h7, h8, h9⟩ := inv_comp h
    obtain ⟨e1, es1, rfl, g1, g2⟩ := okTs_cons h7
    obtain ⟨e2, es2, rfl, g3, g4⟩ := okTs_cons g2
    simp at h6
  | .popAt i k, X, W, e, C, h => by
    obtain ⟨x, p, apos, k', cpos, rfl, hv, hl, h1, hn⟩ := inv_popAt h
    have hk := sE k C h1
    refine PE.imp (pe_bm PySem.F.plainAttrs_list PySem.F.slot_list_pop PySem.F.type_list_pop mt_popAt (ps_var C hv) (pa_cons hk pa_nil (star_nice hn)) rfl
      (by rw [star_nice hn]; rfl) hl (star_nice hn) rfl) fun σ H R hx => ?_
    obtain ⟨Fo, fx, Own, env, Q, E, S, hw, ok, ke⟩ := hx
    simp only [wpE] at hw
    obtain ⟨⟨xs0, e0⟩, hw⟩ := hw
    obtain ⟨ad, us, g1, g2, g3, g4⟩ := S.own e0
    refine ⟨.ref ad, g1, .inl ⟨rfl, us, SqL.of g3⟩, Fo, fx, Own, env, _, E, S, hw, fun v H1 Own1 env1 d S1 l1 rd hq => ?_, ke⟩
    obtain ⟨n, ds, j, y, rfl, e1, b1, b2, e2, e3, hq⟩ := hq
    simp only [Rep] at rd
    obtain ⟨ad2, ws, k1, k2, k3, k4⟩ := S1.own e1
    have : ad2 = ad := by rw [g1] at k1; cases k1; rfl
    subst this
    obtain ⟨yv, q1, q2⟩ := k4.get e3
    obtain ⟨S2, l2⟩ := S1.write e1 g1 (k4.eraseIdx j)
    refine ⟨ad2, ws, n, j, yv, rfl, by rw [rd], k3, b1, b2, by rw [k4.length]; exact e2, q1, ok yv _ Own1 _ y S2 (l1.trans l2) (Rep.le l2 S1.ok y yv q2) hq⟩
  | .pop i, X, W, e, C, h => by
    obtain ⟨x, p, apos, cpos, rfl, hv, hl⟩ := inv_pop h
    refine PE.imp (pe_bm0 PySem.F.plainAttrs_list PySem.F.slot_list_pop PySem.F.type_list_pop mt_pop (ps_var C hv) rfl hl) fun σ H R hx => ?_
    obtain ⟨Fo, fx, Own, env, Q, E, S, hw, ok, ke⟩ := hx
    simp only [wpE] at hw
    obtain ⟨ds, y, e1, e3, hq⟩ := hw
    obtain ⟨ad, us, g1, g2, g3, g4⟩ := S.own e1
    obtain ⟨yv, q1, q2⟩ := g4.get e3
    have hdl : Reps X.K X.mg H Own ds.dropLast us.dropLast := by
      rw [List.dropLast_eq_take, List.dropLast_eq_take, g4.length]
      exact g4.take _
    obtain ⟨S2, l2⟩ := S.write e1 g1 hdl
    exact ⟨.ref ad, g1, .inl ⟨rfl, us, SqL.of g3⟩, ad, us, yv, rfl, rfl, g3, by rw [g4.length]; exact q1, ok yv _ Own _ y S2 l2 (Rep.le l2 S.ok y yv q2) hq⟩
  | .slc2 x l u, X, W, e, C, h => by
    obtain ⟨x', l', u', p, q, rfl, h1, h2, h3⟩ := inv_slc2 h
    refine PE.imp (pe_slice sl_B (sE x C h1) (po_some (sE l C h2)) (po_some (sE u C h3))) fun σ H R hx => ?_
    obtain ⟨Fo, fx, Own, env, Q, E, S, hw, ok, ke⟩ := hx
    simp only [wpE] at hw
    refine ⟨Fo, fx, Own, env, _, E, S, hw, fun v H1 Own1 env1 d S1 l1 rd hq => ?_, ke⟩
    refine ⟨Fo, fx, Own1, env1, _, E, S1, hq, fun v2 H2 Own2 env2 d2 S2 l2 rd2 hq => ?_, ke.le l1⟩
    obtain ⟨n, rfl, hq⟩ := hq
    simp only [Rep] at rd2
    refine ⟨n, rd2, Fo, fx, Own2, env2, _, E, S2, hq, fun v3 H3 Own3 env3 d3 S3 l3 rd3 hq => ?_, ke.le (l1.trans l2)⟩
    obtain ⟨m, rfl, hq⟩ := hq
    simp only [Rep] at rd3
    refine ⟨m, rd3, ?_⟩
    exact sim_sl S3 (.inl (Rep.le (l2.trans l3) S1.ok d v rd)) hq fun w H4 Own4 d4 S4 l4 r4 hq => ok w H4 Own4 env3 d4 S4 (((l1.trans l2).trans l3).trans l4) r4 hq
  | .rg1 t a, X, W, e, C, h => by
    obtain ⟨f, p, g, p2, x, q, q2, rfl, h1, h2, h3, h4⟩ := inv_rg1 h
    have b := bi_ok C h2
    obtain rfl := b.e
    refine sound_rg C h1 (prg_1 b.gl b.no (sE a C h4) (star_nice h3)) rfl (fun σ H R hx => ?_) (fun σ H P P' m hp => ?_)
    · obtain ⟨Fo, fx, Own, env, Q, E, S, hw, ok, ke⟩ := hx
      simp only [wpE] at hw
      refine ⟨Fo, fx, Own, env, _, E, S, hw, fun v H1 Own1 env1 d S1 l1 rd hq => ?_, ke⟩
      obtain ⟨n, rfl, hb, hq⟩ := hq
      simp only [Rep] at rd
      exact ⟨n, rd, hb, Fo, fx, σ, Own1, env1, S1, fun v H2 Own2 S2 l2 r2 => ok v H2 Own2 env1 _ S2 (l1.trans l2) r2 hq⟩
    · obtain ⟨Fo, fx, Own, env, Q, E, S, hw, ok, ke⟩ := hp
      exact ⟨Fo, fx, Own, env, Q, E, S, hw, fun v H1 Own1 env1 d S1 l1 rd hq => by obtain ⟨n, e1, h⟩ := ok v H1 Own1 env1 d S1 l1 rd hq; exact ⟨n, e1, m _ _ _ h⟩, ke⟩
  | .rg2 t a b', X, W, e, C, h => by
    obtain ⟨f, p, g, p2, x, y, q, q2, rfl, h1, h2, h3, h3', h4, h5⟩ := inv_rg2 h
    have b := bi_ok C h2
    obtain rfl := b.e
    refine sound_rg C h1 (prg_2 b.gl b.no (sE a C h4) (sE b' C h5) (star_nice h3) (star_nice h3') (by rw [star_nice h3']; rfl)) rfl (fun σ H R hx => ?_) (fun σ H P P' m hp => ?_)
    · obtain ⟨Fo, fx, Own, env, Q, E, S, hw, ok, ke⟩ := hx
      simp only [wpE] at hw
      refine ⟨Fo, fx, Own, env, _, E, S, hw, fun v H1 Own1 env1 d S1 l1 rd hq => ?_, ke⟩
      refine ⟨Fo, fx, Own1, env1, _, E, S1, hq, fun u H2 Own2 env2 d2 S2 l2 ru hq => ?_, ke.le l1⟩
      obtain ⟨n1, n, rfl, rfl, hb, hq⟩ := hq
      simp only [Rep] at rd ru
      exact ⟨n1, n, rd, ru, hb, Fo, fx, σ, Own2, env2, S2, fun v H3 Own3 S3 l3 r3 => ok v H3 Own3 env2 _ S3 ((l1.trans l2).trans l3) r3 hq⟩
    · obtain ⟨Fo, fx, Own, env, Q, E, S, hw, ok, ke⟩ := hp
      refine ⟨Fo, fx, Own, env, Q, E, S, hw, fun v H1 Own1 env1 d S1 l1 rd hq => ?_, ke⟩
      obtain ⟨Fo2, fx2, Own2, env2, Q2, E2, S2, hw2, ok2, ke2⟩ := ok v H1 Own1 env1 d S1 l1 rd hq
      exact ⟨Fo2, fx2, Own2, env2, Q2, E2, S2, hw2, fun v H1 Own1 env1 d S1 l1 rd hq => by obtain ⟨i, j, e1, e2, h⟩ := ok2 v H1 Own1 env1 d S1 l1 rd hq; exact ⟨i, j, e1, e2, m _ _ _ h⟩, ke2⟩
theorem sAs {c : Ck} {Γ : Gam} : ∀ (as : As) {X : Cx} {W : WX} {es : List Expr}, Cok X c Γ W → okAs c X.env.scope as es = true → PEs X es (ops X.K X.mg Γ W as)
  | .nil, X, W, es, C, h => by
    cases es with
    | nil => exact .nil
    | cons => simp [okAs] at h
  | .e a r, X, W, es, C, h => by
    cases es with
    | nil => simp [okAs] at h
    | cons e es =>
      simp only [okAs, Bool.and_eq_true] at h
      exact .cons h.1.1 (sE a C h.1.2) (sAs r C h.2)
  | .pk i r, X, W, es, C, h => by
    cases es with
    | nil => simp [okAs] at h
    | cons e es =>
      cases e with
      | Name x p =>
        simp only [okAs, Bool.and_eq_true] at h
        exact .cons rfl (ps_var C h.1) (sAs r C h.2)
      | _ => simp [okAs] at h
theorem sAnds {c : Ck} {Γ : Gam} : ∀ (l : As) {X : Cx} {W : WX} {es : List Expr} {p : Pos}, Cok X c Γ W → okAs c X.env.scope l es = true → noPk l = true → PE X (.BoolOp .And es p) (fun σ H R => ∃ Fo fx Own env Q E, SOk X.K X.mg Fo fx σ H Own env ∧ wpAnds Γ l env Q E ∧
    (∀ v H' Own' env' d, SOk X.K X.mg Fo fx σ H' Own' env' → Le H Own H' Own' → Rep X.K X.mg H' Own' d v → Q d env' → R v H') ∧ Ke X.K X.mg W Fo fx σ H Own E)
  | .nil, X, W, es, p, C, h, hn => ⟨fun pins s σ H Q I hx => by
    obtain ⟨Fo, fx, Own, env, Q', E, S, hw, ok, ke⟩ := hx
    simp only [wpAnds] at hw⟩
  | .pk _ _, X, W, es, p, C, h, hn => by cases hn
  | .e a .nil, X, W, es, p, C, h, hn => by
    cases es with
    | nil => simp [okAs] at h
    | cons e es =>
      simp only [okAs, Bool.and_eq_true] at h
      have : es = [] := by
        cases es with
        | nil => rfl
        | cons => simp [okAs] at h
      subst this
      refine PE.imp (pe_one (sE a C h.1.2)) fun σ H R hx => ?_
      obtain ⟨Fo, fx, Own, env, Q, E, S, hw, ok, ke⟩ := hx
      simp only [wpAnds] at hw
      exact ⟨Fo, fx, Own, env, Q, E, S, hw, ok, ke⟩
  | .e a (.pk _ _), X, W, es, p, C, h, hn => by cases hn
  | .e a (.e b r), X, W, es, p, C, h, hn => by
    cases es with
    | nil => simp [okAs] at h
    | cons e es =>
      cases es with
      | nil => simp [okAs] at h
      | cons e2 es =>
        have h' : ((nice e && okE c X.env.scope a e) && okAs c X.env.scope (.e b r) (e2 :: es)) = true := h
        rw [Bool.and_eq_true, Bool.and_eq_true] at h'
        refine PE.imp (pe_and (sE a C h'.1.2) (sAnds (.e b r) C h'.2 hn)) fun σ H R hx => ?_
        obtain ⟨Fo, fx, Own, env, Q, E, S, hw, ok, ke⟩ := hx
        simp only [wpAnds] at hw
        refine ⟨Fo, fx, Own, env, _, E, S, hw, fun v H1 Own1 env1 d S1 l1 r hq => ?_, ke⟩
        obtain ⟨k, rfl, hq⟩ := hq
        simp only [Rep] at r
        refine ⟨k, r, ?_⟩
        cases k with
        | true => exact L2.iteT ⟨Fo, fx, Own1, env1, Q, E, S1, hq.1 rfl, fun v H2 Own2 env2 d S2 l2 r q => ok v H2 Own2 env2 d S2 (l1.trans l2) r q, ke.le l1⟩
        | false => exact L2.iteF (ok _ H1 Own1 env1 (.bl false) S1 l1 (by simp only [Rep]) (hq.2 rfl))
theorem sOrs {c : Ck} {Γ : Gam} : ∀ (l : As) {X : Cx} {W : WX} {es : List Expr} {p : Pos}, Cok X c Γ W → okAs c X.env.scope l es = true → noPk l = true → PE X (.BoolOp .Or es p) (fun σ H R => ∃ Fo fx Own env Q E, SOk X.K X.mg Fo fx σ H Own env ∧ wpOrs Γ l env Q E ∧
    (∀ v H' Own' env' d, SOk X.K X.mg Fo fx σ H' Own' env' → Le H Own H' Own' → Rep X.K X.mg H' Own' d v → Q d env' → R v H') ∧ Ke X.K X.mg W Fo fx σ H Own E)
  | .nil, X, W, es, p, C, h, hn => ⟨fun pins s σ H Q I hx => by
    obtain ⟨Fo, fx, Own, env, Q', E, S, hw, ok, ke⟩ := hx
    simp only [wpOrs] at hw⟩
  | .pk _ _, X, W, es, p, C, h, hn => by cases hn
  | .e a .nil, X, W, es, p, C, h, hn => by
    cases es with
    | nil => simp [okAs] at h
    | cons e es =>
      simp only [okAs, Bool.and_eq_true] at h
      have : es = [] := by
        cases es with
        | nil => rfl
        | cons => simp [okAs] at h
      subst this
      refine PE.imp (pe_one (sE a C h.1.2)) fun σ H R hx => ?_
      obtain ⟨Fo, fx, Own, env, Q, E, S, hw, ok, ke⟩ := hx
      simp only [wpOrs] at hw
      exact ⟨Fo, fx, Own, env, Q, E, S, hw, ok, ke⟩
  | .e a (.pk _ _), X, W, es, p, C, h, hn => by cases hn
  | .e a (.e b r), X, W, es, p, C, h, hn => by
    cases es with
    | nil => simp [okAs] at h
    | cons e es =>
      cases es with
      | nil => simp [okAs] at h
      | cons e2 es =>
        have h' : ((nice e && okE c X.env.scope a e) && okAs c X.env.scope (.e b r) (e2 :: es)) = true := h
        rw [Bool.and_eq_true, Bool.and_eq_true] at h'
        refine PE.imp (pe_or (sE a C h'.1.2) (sOrs (.e b r) C h'.2 hn)) fun σ H R hx => ?_
        obtain ⟨Fo, fx, Own, env, Q, E, S, hw, ok, ke⟩ := hx
        simp only [wpOrs] at hw
        refine ⟨Fo, fx, Own, env, _, E, S, hw, fun v H1 Own1 env1 d S1 l1 r hq => ?_, ke⟩
        obtain ⟨k, rfl, hq⟩ := hq
        simp only [Rep] at r
        refine ⟨k, r, ?_⟩
        cases k with
        | true => exact L2.iteT (ok _ H1 Own1 env1 (.bl true) S1 l1 (by simp only [Rep]) (hq.1 rfl))
        | false => exact L2.iteF ⟨Fo, fx, Own1, env1, Q, E, S1, hq.2 rfl, fun v H2 Own2 env2 d S2 l2 r q => ok v H2 Own2 env2 d S2 (l1.trans l2) r q, ke.le l1⟩
theorem sT {c : Ck} {Γ : Gam} : ∀ (t : Ts) {X : Cx} {W : WX} {e : Expr}, Cok X c Γ W → okT c X.env.scope t e = true → PT X e (TT' X.K X.mg Γ W t)
  | .e a, X, W, e, C, h => by
    obtain ⟨h1, h2⟩ := invT_e h
    exact soundT_e h1 (sE a C h2)
  | .cmp p as, X, W, e, C, h => by
    obtain ⟨es, h1, h2, h3⟩ := invT_cmp h
    exact sound_prT C p h2 h1 (sAs as C h3)
  | .ands l, X, W, e, C, h => by
    obtain ⟨a, es, p, rfl, h1⟩ := invT_ands h
    refine PT.imp (sTs true l C h1 (by simp)).pt fun σ H R hx => ?_
    obtain ⟨Fo, fx, Own, env, Q, E, S, hw, ok, ke⟩ := hx
    simp only [wpT] at hw
    exact ⟨Fo, fx, Own, env, Q, E, S, hw, ok, ke⟩
  | .ors l, X, W, e, C, h => by
    obtain ⟨a, es, p, rfl, h1⟩ := invT_ors h
    refine PT.imp (sTs false l C h1 (by simp)).pt fun σ H R hx => ?_
    obtain ⟨Fo, fx, Own, env, Q, E, S, hw, ok, ke⟩ := hx
    simp only [wpT] at hw
    exact ⟨Fo, fx, Own, env, Q, E, S, hw, ok, ke⟩
  | .not_ t, X, W, e, C, h => by
    obtain ⟨a, p, rfl, h1⟩ := invT_not h
    refine PT.imp (pt_not (sT t C h1)) fun σ H R hx => ?_
    obtain ⟨Fo, fx, Own, env, Q, E, S, hw, ok, ke⟩ := hx
    simp only [wpT] at hw
    exact ⟨Fo, fx, Own, env, _, E, S, hw, fun b H' Own' env' S' l' q => ok (!b) H' Own' env' S' l' q, ke⟩
  | .chain p q x y z, X, W, e, C, h => by
    obtain ⟨x', o1, o2, y', z', pos, rfl, c1, c2, h1, h2, h3⟩ := invT_chain h
    obtain ⟨r1, ho1, s1⟩ := cmp_chain C c1
    obtain ⟨r2', ho2, s2⟩ := cmp_chain C c2
    have hm : lastMarks [o1, o2] [y', z'] = false := by
      show behindInMarks o2 z' = false
      exact nomark z' (by cases q <;> cases c2 <;> decide) (by cases q <;> cases c2 <;> decide)
    refine PT.imp (pt_chain ho1 ho2 (sE x C h1) (sE y C h2) (sE z C h3) hm) fun σ H R hx => ?_
    obtain ⟨Fo, fx, Own, env, Q, E, S, hw, ok, ke⟩ := hx
    simp only [wpT] at hw
    refine ⟨Fo, fx, Own, env, _, E, S, hw, fun v H1 Own1 env1 d S1 l1 rd hq => ?_, ke⟩
    refine ⟨Fo, fx, Own1, env1, _, E, S1, hq, fun u H2 Own2 env2 d2 S2 l2 ru hq => ?_, ke.le l1⟩
    refine s1 Fo fx σ H2 Own2 env2 [d, d2] [v, u] _ _ S2 ⟨v, [u], rfl, .inl (Rep.le l2 S1.ok d v rd), u, [], rfl, .inl ru, rfl⟩ hq fun w H3 Own3 d3 S3 l3 rw hq => ?_
    obtain ⟨k, rfl, hq⟩ := hq
    simp only [Rep] at rw
    refine ⟨k, rw, ?_⟩
    cases k with
    | false => exact L2.iteF ⟨false, rfl, ok false H3 Own3 env2 S3 ((l1.trans l2).trans l3) (hq.2 rfl)⟩
    | true =>
      refine L2.iteT ⟨Fo, fx, Own3, env2, _, E, S3, hq.1 rfl, fun t H4 Own4 env4 d4 S4 l4 rt hq => ?_, ke.le ((l1.trans l2).trans l3)⟩
      refine s2 Fo fx σ H4 Own4 env4 [d2, d4] [u, t] _ _ S4 ⟨u, [t], rfl, .inl (Rep.le (l3.trans l4) S2.ok d2 u ru), t, [], rfl, .inl rt, rfl⟩ hq fun w2 H5 Own5 d5 S5 l5 rw5 hq => ?_
      obtain ⟨k, rfl, hq⟩ := hq
      simp only [Rep] at rw5
      exact ⟨k, rw5, ok k H5 Own5 env4 S5 ((((l1.trans l2).trans l3).trans l4).trans l5) hq⟩
theorem sTs {c : Ck} {Γ : Gam} : ∀ (k : Bool) (l : Tss) {X : Cx} {W : WX} {es : List Expr} {p : Pos}, Cok X c Γ W → okTs c X.env.scope l es = true → es ≠ [] → PW X (.BoolOp (if k then .And else .Or) es p) (TTs X.K X.mg Γ W k l)
  | k, .nil, X, W, es, p, C, h, hn => absurd (okTs_nil h) hn
  | k, .cons t .nil, X, W, es, p, C, h, hn => by
    obtain ⟨e, es', rfl, h1, h2⟩ := okTs_cons h
    obtain rfl := okTs_nil h2
    have key : ∀ σ H R, TTs X.K X.mg Γ W k (.cons t .nil) σ H R → TT' X.K X.mg Γ W t σ H R := fun σ H R hx => by
      obtain ⟨Fo, fx, Own, env, Q, E, S, hw, ok, ke⟩ := hx
      simp only [wpTss] at hw
      refine ⟨Fo, fx, Own, env, _, E, S, hw, fun b H' Own' env' S' l' q => ?_, ke⟩
      by_cases hb : b = k
      · subst hb; exact ok b H' Own' env' S' l' (q.1 rfl)
      · exact ok b H' Own' env' S' l' (q.2 (by cases b <;> cases k <;> first | rfl | exact absurd rfl hb))
    cases k with
    | true => exact PW.imp (pw_and1 (sT t C h1)) key
    | false => exact PW.imp (pw_or1 (sT t C h1)) key
  | k, .cons t (.cons u r), X, W, es, p, C, h, hn => by
    obtain ⟨e, es', rfl, h1, h2⟩ := okTs_cons h
    obtain ⟨e2, es2, rfl, h3, h4⟩ := okTs_cons h2
    have ih := sTs k (.cons u r) (p := p) C h2 (by simp)
    cases k with
    | true =>
      refine PW.imp (pw_and (sT t C h1) ih) fun σ H R hx => ?_
      obtain ⟨Fo, fx, Own, env, Q, E, S, hw, ok, ke⟩ := hx
      rw [wpTss] at hw
      refine ⟨Fo, fx, Own, env, _, E, S, hw, fun b H1 Own1 env1 S1 l1 hq => ?_, ke⟩
      cases b with
      | true => exact L2.iteT ⟨Fo, fx, Own1, env1, Q, E, S1, hq.1 rfl, fun v H2 Own2 env2 S2 l2 q => ok v H2 Own2 env2 S2 (l1.trans l2) q, ke.le l1⟩
      | false => exact L2.iteF (ok false H1 Own1 env1 S1 l1 (hq.2 rfl))
    | false =>
      refine PW.imp (pw_or (sT t C h1) ih) fun σ H R hx => ?_
      obtain ⟨Fo, fx, Own, env, Q, E, S, hw, ok, ke⟩ := hx
      rw [wpTss] at hw
      refine ⟨Fo, fx, Own, env, _, E, S, hw, fun b H1 Own1 env1 S1 l1 hq => ?_, ke⟩
      cases b with
      | true => exact L2.iteT (ok true H1 Own1 env1 S1 l1 (hq.2 rfl))
      | false => exact L2.iteF ⟨Fo, fx, Own1, env1, Q, E, S1, hq.1 rfl, fun v H2 Own2 env2 S2 l2 q => ok v H2 Own2 env2 S2 (l1.trans l2) q, ke.le l1⟩
theorem sI {c : Ck} {Γ : Gam} : ∀ (it : Pd.It) {X : Cx} {W : WX} {tg e : Expr}, Cok X c Γ W → okI c X.env.scope it tg e = true → PI X tg e (TIt X.K X.mg Γ W it)
  | .seq a, X, W, tg, e, C, h => by
    have h' : (nice e && okE c X.env.scope a e) = true := by
      unfold okI at h
      exact h
    rw [Bool.and_eq_true] at h'
    refine PI.imp (pi_seq (sE a C h'.2)) fun σ H R hx => ?_
    obtain ⟨Fo, fx, Own, env, Q, E, S, hw, ok, ke⟩ := hx
    simp only [wpI] at hw
    refine ⟨Fo, fx, Own, env, _, E, S, hw, fun v H1 Own1 env1 d S1 l1 rd hq => ?_, ke⟩
    obtain ⟨ds, e1, hq⟩ := hq
    cases d with
    | tup xs =>
      cases e1
      simp only [Rep] at rd
      obtain ⟨a', vs, rfl, q1, r⟩ := rd
      exact ⟨a', rfl, .inr ⟨vs, q1, ok _ H1 Own1 env1 _ S1 l1 (it_tup q1 S1.ok r) hq⟩⟩
    | lst xs =>
      cases e1
      simp only [Rep] at rd
      obtain ⟨a', vs, rfl, n1, q1, r⟩ := rd
      exact ⟨a', rfl, .inl ⟨vs, SqL.of q1, ok _ H1 Own1 env1 _ S1 l1 (it_list (.inl ⟨n1, .inl q1⟩) S1.ok r) hq⟩⟩
    | scr xs =>
      cases e1
      simp only [Rep] at rd
      obtain ⟨a', vs, rfl, q1, r⟩ := rd
      exact ⟨a', rfl, .inl ⟨vs, q1.elim (fun z => .inl z.2) sqL_none, ok _ H1 Own1 env1 _ S1 l1 (it_list q1 S1.ok r) hq⟩⟩
    | _ => cases e1
  | .rng1 a, X, W, tg, e, C, h => by
    unfold okI at h
    split at h <;> (try (rename_i heq; cases heq)) <;> first | (cases h; done) | skip
    simp only [Bool.and_eq_true] at h
    have b := bi_ok C h.1.1
    obtain rfl := b.e
    refine PI.imp (pi_range1 b.gl b.no (pa_cons (sE a C h.2) pa_nil (star_nice h.1.2)) (star_nice h.1.2)) fun σ H R hx => ?_
    obtain ⟨Fo, fx, Own, env, Q, E, S, hw, ok, ke⟩ := hx
    simp only [wpI] at hw
    refine ⟨Fo, fx, Own, env, _, E, S, hw, fun v H1 Own1 env1 d S1 l1 rd hq => ?_, ke⟩
    obtain ⟨n, rfl, hb, hq⟩ := hq
    simp only [Rep] at rd
    exact ⟨n, by rw [rd], hb.1, hb.2, ok _ H1 Own1 env1 _ S1 l1 it_rng hq⟩
  | .rng2 a b', X, W, tg, e, C, h => by
    unfold okI at h
    split at h <;> (try (rename_i heq; cases heq)) <;> first | (cases h; done) | skip
    simp only [Bool.and_eq_true] at h
    obtain ⟨⟨⟨⟨h1, h2⟩, h3⟩, h4⟩, h5⟩ := h
    have b := bi_ok C h1
    obtain rfl := b.e
    refine PI.imp (pi_range2 b.gl b.no (pa_cons (sE a C h4) (pa_cons (sE b' C h5) pa_nil (star_nice h3)) (star_nice h2)) (by rw [star_nice h2, star_nice h3]; rfl) (star_nice h3)) fun σ H R hx => ?_
    obtain ⟨Fo, fx, Own, env, Q, E, S, hw, ok, ke⟩ := hx
    simp only [wpI] at hw
    refine ⟨Fo, fx, Own, env, _, E, S, hw, fun v H1 Own1 env1 d S1 l1 rd hq => ?_, ke⟩
    refine ⟨Fo, fx, Own1, env1, _, E, S1, hq, fun u H2 Own2 env2 d2 S2 l2 ru hq => ?_, ke.le l1⟩
    obtain ⟨m, n, rfl, rfl, hb, hq⟩ := hq
    simp only [Rep] at rd ru
    exact ⟨m, n, by rw [rd, ru], hb, ok _ H2 Own2 env2 _ S2 (l1.trans l2) it_rng hq⟩
  | .zip a b', X, W, tg, e, C, h => by
    unfold okI at h
    split at h <;> (try (rename_i heq; cases heq)) <;> first | (cases h; done) | skip
    simp only [Bool.and_eq_true] at h
    obtain ⟨⟨⟨⟨h1, h2⟩, h3⟩, h4⟩, h5⟩ := h
    have b := bi_ok C h1
    obtain rfl := b.e
    refine PI.imp (RZ.pi_zipA b.gl b.no (pa_cons (sE a C h4) (pa_cons (sE b' C h5) pa_nil (star_nice h3)) (star_nice h2)) (star_nice h2) (plain_back fun z hz => by rw [List.mem_singleton] at hz; subst hz; exact h3)) fun σ H R hx => ?_
    obtain ⟨Fo, fx, Own, env, Q, E, S, hw, ok, ke⟩ := hx
    simp only [wpI] at hw
    refine ⟨Fo, fx, Own, env, _, E, S, hw, fun v H1 Own1 env1 d S1 l1 rd hq => ?_, ke⟩
    refine ⟨Fo, fx, Own1, env1, _, E, S1, hq, fun u H2 Own2 env2 d2 S2 l2 ru hq2 => ?_, ke.le l1⟩
    obtain ⟨xs, ys, hxy, hq2⟩ := hq2
    have rd' := Rep.le l2 S1.ok _ _ rd
    rcases hxy with ⟨rfl, rfl⟩ | ⟨rfl, rfl⟩
    · simp only [Rep] at rd' ru
      obtain ⟨p1, us, rfl, q1, r1⟩ := rd'
      obtain ⟨p2, ws, rfl, q2, r2⟩ := ru
      exact ⟨p1, p2, us, ws, rfl, .inr ⟨q1, q2, ok _ H2 Own2 env2 _ S2 (l1.trans l2) (it_zipT q1 q2 S2.ok r1 r2) hq2⟩⟩
    · simp only [Rep] at rd' ru
      obtain ⟨p1, us, rfl, n1, q1, r1⟩ := rd'
      obtain ⟨p2, ws, rfl, n2, q2, r2⟩ := ru
      exact ⟨p1, p2, us, ws, rfl, .inl ⟨SqL.of q1, SqL.of q2, ok _ H2 Own2 env2 _ S2 (l1.trans l2) (it_zipL n1 q1 n2 q2 S2.ok r1 r2) hq2⟩⟩
  | .enum a, X, W, tg, e, C, h => by
    unfold okI at h
    split at h <;> (try (rename_i heq; cases heq)) <;> first | (cases h; done) | skip
    simp only [Bool.and_eq_true] at h
    have b := bi_ok C h.1.1
    obtain rfl := b.e
    refine PI.imp (pi_enumA b.gl b.no (pa_cons (sE a C h.2) pa_nil (star_nice h.1.2)) (star_nice h.1.2)) fun σ H R hx => ?_
    obtain ⟨Fo, fx, Own, env, Q, E, S, hw, ok, ke⟩ := hx
    simp only [wpI] at hw
    refine ⟨Fo, fx, Own, env, _, E, S, hw, fun v H1 Own1 env1 d S1 l1 rd hq => ?_, ke⟩
    obtain ⟨ds, e1, hq⟩ := hq
    cases d with
    | tup xs =>
      cases e1
      simp only [Rep] at rd
      obtain ⟨a', vs, rfl, q1, r⟩ := rd
      exact ⟨a', vs, rfl, .inr ⟨q1, ok _ H1 Own1 env1 _ S1 l1 (it_enumT q1 S1.ok r) hq⟩⟩
    | lst xs =>
      cases e1
      simp only [Rep] at rd
      obtain ⟨a', vs, rfl, n1, q1, r⟩ := rd
      exact ⟨a', vs, rfl, .inl ⟨SqL.of q1, ok _ H1 Own1 env1 _ S1 l1 (it_enumL (.inl ⟨n1, .inl q1⟩) S1.ok r) hq⟩⟩
    | scr xs =>
      cases e1
      simp only [Rep] at rd
      obtain ⟨a', vs, rfl, q1, r⟩ := rd
      exact ⟨a', vs, rfl, .inl ⟨q1.elim (fun z => .inl z.2) sqL_none, ok _ H1 Own1 env1 _ S1 l1 (it_enumL q1 S1.ok r) hq⟩⟩
    | _ => cases e1
  | .prE p as, X, W, tg, e, C, h => by
    unfold okI at h
    cases h
end
end Pd

set_option Elab.async false
set_option linter.all false
set_option maxRecDepth 100000
/-! PyD, part 11: statements: the check, and its soundness. -/
namespace Pd
open PySem PySem.Spec L2

/-! ### the check -/
def notLC : Expr → Bool
  | .ListComp _ _ _ _ => false
  | .SetComp _ _ _ _ => false
  | .DictComp _ _ _ _ _ => false
  | _ => true
/-- the value is made, then stored -/
def swF (sc : Scope) : Expr → Expr → Bool
  | .Name t p, .ListComp _ _ s pos => !((sc.names.lookup t == some .local) && (p.line == pos.line) && !(s.names.any fun (n, k) => n == t && (k == .local || k == .cell)))
  | _, e => notLC e
/-- the stores' order is exchanged -/
def swT (sc : Scope) : Expr → Expr → Bool
  | .Name t p, .ListComp _ _ s pos => (sc.names.lookup t == some .local) && (p.line == pos.line) && !(s.names.any fun (n, k) => n == t && (k == .local || k == .cell))
  | _, _ => false
def isFr : Ex → Bool
  | .comp _ _ _ _ _ => true
  | .pr .lstD _ => true
  | .pr .lstOf _ => true
  | .pr .add _ => true
  | _ => false
def notTup : Expr → Bool
  | .Tuple _ _ _ => false
  | .List _ _ => false
  | _ => true
def augOf : Pr → Option Operator
  | .add => some .Add
  | .sub => some .Sub
  | .mul => some .Mult
  | .mod => some .Mod
  | _ => none
def okNm (c : Ck) (sc : Scope) (i : Nat) (x : Str) : Bool := decide (c.N[i]? = some x) && locB sc x
mutual
def okS (c : Ck) (sc : Scope) : Sm → Stmt → Bool
  | .asg t ie, .Assign [tg] e _ => okTg c (locB sc) t tg && okE c sc ie e && (tgs t).all (fun i => !(c.lent.contains i)) && (match tg with | .Name _ _ => true | _ => notTup e) && (swF sc tg e || (match ie with | .comp _ _ _ _ _ => swT sc tg e | _ => false))
  | .asgO i ie, .Assign [.Name x p] e _ => okNm c sc i x && okE c sc ie e && isFr ie && !(c.lent.contains i) && (swF sc (.Name x p) e || (match ie with | .comp _ _ _ _ _ => swT sc (.Name x p) e | _ => false))
  | .asgC i f as, .Assign [.Name x _] (.Call (.Name g _) (a :: args) [] _) _ => okNm c sc i x && !(c.lent.contains i) && decide (c.Gn[f]? = some (g, (a :: args).length)) && okGl sc g && decide ((pks as).Nodup) && okAs c sc as (a :: args)
  | .par i j a b, .Assign [.Tuple [.Name x px, .Name y py] _ _] (.Tuple [a', b'] _ _) _ => decide (c.N[i]? = some x) && decide (c.N[j]? = some y) && decide (i ≠ j) && (sc.names.lookup x == some .local) && (sc.names.lookup y == some .local) &&
      !(c.lent.contains i) && !(c.lent.contains j) && (px.line == py.line) && nice a' && nice b' && !([a', b'].all (foldedForSure 8)) && !([a', b'].all (constantsAlone 8)) && okE c sc a a' && okE c sc b b'
  | .aug i p ie, .AugAssign (.Name x _) op e _ => okNm c sc i x && !(c.lent.contains i) && decide (augOf p = some op) && okE c sc ie e
  | .ret ie, .Return (some e) _ => okE c sc ie e
  | .retO ie, .Return (some e) _ => okE c sc ie e && isFr ie
  | .retN, .Return none _ => true
  | .pass, .Pass _ => true
  | .brk, .Break _ => true
  | .cont, .Continue _ => true
  | .ife t a b, .If t' a' b' _ => okT c sc t t' && okSs c sc a a' && okSs c sc b b'
  | .for_ t it b, .For tg e b' [] _ => okTg c (locB sc) t tg && okI c sc it tg e && (tgs t).all (fun i => !(c.lent.contains i)) && nice e && okSs c sc b b'
  | .while_ t b, .While t' b' [] _ => okT c sc t t' && okSs c sc b b'
  | .app i ie, .Expr (.Call (.Attribute (.Name x _) n apos) [e] [] cpos) _ => okVar c sc i x && decide (n = ("append" : Str)) && (apos.endLine == cpos.line) && okE c sc ie e && nice e
  | .setix i ik ie, .Assign [.Subscript (.Name x _) k _] e _ => okVar c sc i x && nice k && okE c sc ik k && okE c sc ie e
  | .augix i ik p ie, .AugAssign (.Subscript (.Name x _) k _) op e _ => okVar c sc i x && nice k && decide (augOf p = some op) && okE c sc ik k && okE c sc ie e
  | .expr ie, .Expr e _ => okE c sc ie e && notLC e
  | _, _ => false
def okSs (c : Ck) (sc : Scope) : Sms → List Stmt → Bool
  | .nil, [] => true
  | .cons s r, st :: sts => okS c sc s st && okSs c sc r sts
  | _, _ => false
end

/-! ### what a body's statements read -/
section
variable (K : PySem.W.Frag) (mg : Str → Option Value) (Γ : Gam) (W : WX) (lent : List Nat)
structure EndOk (Fo : Fgn) (fx : List (Nat × Addr)) (D : Ends) (H : Hp) (Own : Addr → Prop) (P : Po) : Prop where
  nx : ∀ σ' H' Own' env', SOk K mg Fo fx σ' H' Own' env' → Le H Own H' Own' → P.nx env' → D.nx σ' H'
  bk : ∀ σ' H' Own' env', SOk K mg Fo fx σ' H' Own' env' → Le H Own H' Own' → P.bk env' → D.bk σ' H'
  ct : ∀ σ' H' Own' env', SOk K mg Fo fx σ' H' Own' env' → Le H Own H' Own' → P.ct env' → D.ct σ' H'
  rt : ∀ σ' H' Own' env' r v, SOk K mg Fo fx σ' H' Own' env' → Le H Own H' Own' → RetOk K mg Fo σ' H' Own' env' r v → P.rt r env' → D.rt v H'
  ex : ∀ σ', Ke K mg W Fo fx σ' H Own P.ex
def TS1 (s : Sm) : TS := fun D σ H => ∃ (Fo : Fgn) (fx : List (Nat × Addr)) (Own : Addr → Prop) (env : Env) (P : Po), SOk K mg Fo fx σ H Own env ∧ (∀ p ∈ fx, p.1 ∈ lent) ∧ wpS Γ s env P ∧ EndOk K mg W Fo fx D H Own P
def TSs (b : Sms) : TS := fun D σ H => ∃ (Fo : Fgn) (fx : List (Nat × Addr)) (Own : Addr → Prop) (env : Env) (P : Po), SOk K mg Fo fx σ H Own env ∧ (∀ p ∈ fx, p.1 ∈ lent) ∧ wpSs Γ b env P ∧ EndOk K mg W Fo fx D H Own P
end
section
variable {K : PySem.W.Frag} {mg : Str → Option Value} {Γ : Gam} {W : WX} {lent : List Nat} {Fo : Fgn} {fx : List (Nat × Addr)} {D : Ends} {H H' : Hp} {Own Own' : Addr → Prop} {P : Po}
theorem EndOk.le (h : EndOk K mg W Fo fx D H Own P) (l : Le H Own H' Own') : EndOk K mg W Fo fx D H' Own' P :=
  ⟨fun σ' H2 O2 e2 S l2 => h.nx σ' H2 O2 e2 S (l.trans l2), fun σ' H2 O2 e2 S l2 => h.bk σ' H2 O2 e2 S (l.trans l2), fun σ' H2 O2 e2 S l2 => h.ct σ' H2 O2 e2 S (l.trans l2),
    fun σ' H2 O2 e2 r v S l2 => h.rt σ' H2 O2 e2 r v S (l.trans l2), fun σ' => (h.ex σ').le l⟩
theorem notIn {i : Nat} (hl : ∀ p ∈ fx, p.1 ∈ lent) (h : (!(lent.contains i)) = true) : ∀ p ∈ fx, p.1 ≠ i := fun p hp e => by
  have h1 := hl p hp
  rw [e] at h1
  have h2 : lent.contains i = false := by simpa using h
  rw [List.contains_eq_mem] at h2
  exact absurd h1 (by simpa using h2)
theorem notIns {t : Tg} (hl : ∀ p ∈ fx, p.1 ∈ lent) (h : (tgs t).all (fun i => !(lent.contains i)) = true) : ∀ p ∈ fx, p.1 ∉ tgs t := fun p hp e =>
  notIn hl (List.all_eq_true.mp h p.1 e) p hp rfl
/-- as setOwn, the slot there or not -/
theorem SOk.bindOwn {σ : L2.St} {env : Env} (S : SOk K mg Fo fx σ H Own env) {i : Nat} {ds : List Pd.D} {a : Addr} {vs : List V} (hf : ∀ p ∈ fx, p.1 ≠ i) (ha : Own a) (hH : H a = some (.lst vs)) (r : Reps K mg H Own ds vs)
    (n1 : ∀ j, isOwn (getS env j) → σ[j]? ≠ some (some (.ref a))) (n2 : ∀ o, ¬ Fo a o) : SOk K mg Fo fx (σ.set i (some (.ref a))) H Own (setS env i (.own ds)) := by
  by_cases hi : i < env.length
  · exact S.setOwn hi hf ha hH r (fun j _ => n1 j) n2
  · rw [setS_ge (by omega), List.set_eq_of_length_le (by rw [← S.len]; omega)]
    exact S
theorem tx_of_f {ie : Ex} : ∀ (σ : L2.St) (H : Hp) (R : VK), TX K mg Γ W ie σ H R → TXF K mg Γ W ie σ H R := fun σ H R hx => by
  obtain ⟨Fo, fx, Own, env, Q, E, S, hw, ok, ke⟩ := hx
  refine ⟨Fo, fx, Own, env, Q, E, S, hw, fun p H' Own' env' ds ws S' l' op hp rs n1 n2 q => ?_, ke⟩
  obtain ⟨S2, l2⟩ := S'.drop n1 n2
  exact ok (.ref p) H' _ env' (.lst ds) S2 (l'.trans l2) (Rep.lst_of (fun z => z.2 rfl) hp (Reps.le l2 S'.ok ds ws rs)) q
theorem tg_of_f {ie : Ex} : ∀ (σ : L2.St) (H : Hp) (R : VK), TXG K mg Γ W ie σ H R → TXF K mg Γ W ie σ H R := fun σ H R hx => by
  obtain ⟨Fo, fx, Own, env, Q, E, S, hw, _, ok, ke⟩ := hx
  exact ⟨Fo, fx, Own, env, Q, E, S, hw, ok, ke⟩
/-! the readings, by the statement's form -/
theorem rd_asg {t : Tg} {ie : Ex} {D : Ends} {σ : L2.St} {H : Hp} (hn : (tgs t).all (fun i => !(lent.contains i)) = true) (h : TS1 K mg Γ W lent (.asg t ie) D σ H) : tAsg (TX K mg Γ W ie) (gTg K t) D σ H := by
  obtain ⟨Fo, fx, Own, env, P, S, hl, hw, en⟩ := h
  simp only [wpS] at hw
  refine ⟨Fo, fx, Own, env, _, _, S, hw, fun v H1 Own1 env1 d S1 l1 rd hq => ?_, en.ex σ⟩
  refine gTg_mono (fun σ2 H2 hh => ?_) (bind_sound hq S1 rd (notIns hl hn))
  obtain ⟨rfl, env2, S2, q2, _⟩ := hh
  exact en.nx σ2 _ Own1 env2 S2 l1 q2
theorem rd_asgO {i : Nat} {ie : Ex} {D : Ends} {σ : L2.St} {H : Hp} (hn : (!(lent.contains i)) = true) (h : TS1 K mg Γ W lent (.asgO i ie) D σ H) : tAsg (TXG K mg Γ W ie) (gName i) D σ H := by
  obtain ⟨Fo, fx, Own, env, P, S, hl, hw, en⟩ := h
  simp only [wpS] at hw
  refine ⟨Fo, fx, Own, env, _, _, S, hw, fun d env' hq => ?_, fun p H1 Own1 env1 ds ws S1 l1 op hp rs n1 n2 hq => ?_, en.ex σ⟩
  · obtain ⟨ds, e, _⟩ := hq
    exact ⟨ds, e⟩
  · obtain ⟨ds', e, hq⟩ := hq
    cases e
    exact en.nx _ H1 Own1 _ (S1.bindOwn (notIn hl hn) op hp rs n1 n2) l1 hq
theorem rd_asgC {i f : Nat} {as : As} {D : Ends} {σ : L2.St} {H : Hp} (hn : (!(lent.contains i)) = true) (h : TS1 K mg Γ W lent (.asgC i f as) D σ H) : tAsg (TCall K mg Γ W f as) (gName i) D σ H := by
  obtain ⟨Fo, fx, Own, env, P, S, hl, hw, en⟩ := h
  simp only [wpS] at hw
  refine ⟨Fo, fx, Own, env, fun r env1 => ∃ ds, r = .fr ds ∧ P.nx (setS env1 i (.own ds)), P.ex, S, hw, fun v H1 Own1 env1 r S1 l1 ro hq => ?_, en.ex σ⟩
  obtain ⟨ds, rfl, hq⟩ := hq
  obtain ⟨p, ws, rfl, h1, h2, h3, h4, h5⟩ := ro
  exact en.nx _ H1 Own1 _ (S1.bindOwn (notIn hl hn) h1 h2 h3 h4 h5) l1 hq
theorem rd_ret {ie : Ex} {D : Ends} {σ : L2.St} {H : Hp} (h : TS1 K mg Γ W lent (.ret ie) D σ H) : tRet (TX K mg Γ W ie) D σ H := by
  obtain ⟨Fo, fx, Own, env, P, S, hl, hw, en⟩ := h
  simp only [wpS] at hw
  exact ⟨Fo, fx, Own, env, _, _, S, hw, fun v H1 Own1 env1 d S1 l1 rd hq => en.rt σ H1 Own1 env1 (.v d) v S1 l1 rd hq, en.ex σ⟩
theorem rd_retO {ie : Ex} {D : Ends} {σ : L2.St} {H : Hp} (h : TS1 K mg Γ W lent (.retO ie) D σ H) : tRet (TXG K mg Γ W ie) D σ H := by
  obtain ⟨Fo, fx, Own, env, P, S, hl, hw, en⟩ := h
  simp only [wpS] at hw
  refine ⟨Fo, fx, Own, env, _, _, S, hw, fun d env' hq => ?_, fun p H1 Own1 env1 ds ws S1 l1 op hp rs n1 n2 hq => ?_, en.ex σ⟩
  · obtain ⟨ds, e, _⟩ := hq
    exact ⟨ds, e⟩
  · obtain ⟨ds', e, hq⟩ := hq
    cases e
    exact en.rt σ H1 Own1 env1 (.fr ds) (.ref p) S1 l1 ⟨p, ws, rfl, op, hp, rs, n1, n2⟩ hq
theorem rd_par {i j : Nat} {a b : Ex} {D : Ends} {σ : L2.St} {H : Hp} (hn : (!(lent.contains i)) = true) (hm : (!(lent.contains j)) = true) (h : TS1 K mg Γ W lent (.par i j a b) D σ H) : tPar i j (nest [TX K mg Γ W a, TX K mg Γ W b]) D σ H := by
  obtain ⟨Fo, fx, Own, env, P, S, hl, hw, en⟩ := h
  simp only [wpS] at hw
  refine ⟨Fo, fx, Own, env, _, _, S, hw, fun v H1 Own1 env1 d S1 l1 rd hq => ?_, en.ex σ⟩
  refine ⟨Fo, fx, Own1, env1, _, _, S1, hq, fun w H2 Own2 env2 d2 S2 l2 rd2 hq => ?_, (en.ex σ).le l1⟩
  refine ⟨v, w, rfl, ?_⟩
  have S3 := S2.bindVal (i := i) (notIn hl hn) (Rep.le l2 S1.ok d v rd)
  have S4 := S3.bindVal (i := j) (notIn hl hm) rd2
  exact en.nx _ H2 Own2 _ S4 (l1.trans l2) hq
theorem rd_aug {i : Nat} {p : Pr} {ie : Ex} {D : Ends} {σ : L2.St} {H : Hp} {r : R2} (hn : (!(lent.contains i)) = true) (hs : ∀ H Own ds vs Q (R : VK), RepOs K mg H Own ds vs → p.aw ds Q → (∀ v d, Rep K mg H Own d v → Q d → R v H) → r2 r vs H R)
    (h : TS1 K mg Γ W lent (.aug i p ie) D σ H) : tAug i (TX K mg Γ W ie) r D σ H := by
  obtain ⟨Fo, fx, Own, env, P, S, hl, hw, en⟩ := h
  simp only [wpS] at hw
  obtain ⟨x, e1, hw⟩ := hw
  obtain ⟨v, q1, q2⟩ := S.val e1
  refine ⟨v, q1, Fo, fx, Own, env, _, _, S, hw, fun u H1 Own1 env1 d S1 l1 rd hq => ?_, en.ex σ⟩
  exact hs H1 Own1 [x, d] [v, u] _ _ ⟨v, [u], rfl, .inl (Rep.le l1 S.ok x v q2), u, [], rfl, .inl rd, rfl⟩ hq fun w z rz hz => en.nx _ H1 Own1 _ (S1.bindVal (notIn hl hn) rz) l1 hz
theorem rd_ife {t : Ts} {a b : Sms} {D : Ends} {σ : L2.St} {H : Hp} (h : TS1 K mg Γ W lent (.ife t a b) D σ H) : tIfS (TT' K mg Γ W t) (TSs K mg Γ W lent a) (TSs K mg Γ W lent b) D σ H := by
  obtain ⟨Fo, fx, Own, env, P, S, hl, hw, en⟩ := h
  simp only [wpS] at hw
  refine ⟨Fo, fx, Own, env, _, _, S, hw, fun k H1 Own1 env1 S1 l1 hq => ?_, en.ex σ⟩
  cases k with
  | true => exact L2.iteT ⟨Fo, fx, Own1, env1, P, S1, hl, hq.1 rfl, en.le l1⟩
  | false => exact L2.iteF ⟨Fo, fx, Own1, env1, P, S1, hl, hq.2 rfl, en.le l1⟩
theorem rd_expr {ie : Ex} {D : Ends} {σ : L2.St} {H : Hp} (h : TS1 K mg Γ W lent (.expr ie) D σ H) : tDrop (TX K mg Γ W ie) D σ H := by
  obtain ⟨Fo, fx, Own, env, P, S, hl, hw, en⟩ := h
  simp only [wpS] at hw
  exact ⟨Fo, fx, Own, env, _, _, S, hw, fun v H1 Own1 env1 d S1 l1 rd hq => en.nx σ H1 Own1 env1 S1 l1 hq, en.ex σ⟩
theorem rd_seq {s : Sm} {r : Sms} {D : Ends} {σ : L2.St} {H : Hp} (h : TSs K mg Γ W lent (.cons s r) D σ H) : tSeq (TS1 K mg Γ W lent s) (TSs K mg Γ W lent r) D σ H := by
  obtain ⟨Fo, fx, Own, env, P, S, hl, hw, en⟩ := h
  simp only [wpSs] at hw
  exact ⟨Fo, fx, Own, env, _, S, hl, hw, fun σ' H' Own' env' S' l' q => ⟨Fo, fx, Own', env', P, S', hl, q, en.le l'⟩, en.bk, en.ct, en.rt, en.ex⟩
theorem rd_for {t : Tg} {it : Pd.It} {b : Sms} {D : Ends} {σ : L2.St} {H : Hp} (hn : (tgs t).all (fun i => !(lent.contains i)) = true) (h : TS1 K mg Γ W lent (.for_ t it b) D σ H) : tFor (TIt K mg Γ W it) (gTg K t) (TSs K mg Γ W lent b) D σ H := by
  obtain ⟨Fo, fx, Own, env, P, S, hl, hw, en⟩ := h
  simp only [wpS] at hw
  refine ⟨Fo, fx, Own, env, _, _, S, hw, fun J H1 Own1 env1 ds S1 l1 hit hq => ?_, en.ex σ⟩
  obtain ⟨G, Y, wk, hG, hY⟩ := hit
  refine ⟨fun i m σ' H' => ∃ Own' env', i + m = ds.length ∧ SOk K mg Fo fx σ' H' Own' env' ∧ Le H1 Own1 H' Own' ∧ forL (bindT t) (wpSs Γ b) (ds.drop i) env' P, ⟨ds.length, Own1, env1, by omega, S1, Le.refl, hq⟩, fun i m σ' H' hi => ?_⟩
  obtain ⟨Own', env', him, S', l', hq'⟩ := hi
  by_cases hlt : i < ds.length
  · refine .inr ⟨wk.goes i H' hlt (hG H' Own' l'), fun σ'' H'' => ∃ Own' env', i + 1 + (m - 1) = ds.length ∧ SOk K mg Fo fx σ'' H'' Own' env' ∧ Le H1 Own1 H'' Own' ∧ forL (bindT t) (wpSs Γ b) (ds.drop (i + 1)) env' P, fun σ'' H'' hh => ⟨m - 1, by omega, hh⟩, fun x H2 hy => ?_⟩
    have hd : ds[i]? = some ds[i] := List.getElem?_eq_getElem hlt
    rw [List.drop_eq_getElem_cons hlt, forL] at hq'
    have step : ∀ H2 Own2, SOk K mg Fo fx σ' H2 Own2 env' → Le H' Own' H2 Own2 → Rep K mg H2 Own2 ds[i] x → gTg K t x σ' H2 fun σ2 H3 => TSs K mg Γ W lent b { D with
        nx := fun σ'' H'' => ∃ Own' env', i + 1 + (m - 1) = ds.length ∧ SOk K mg Fo fx σ'' H'' Own' env' ∧ Le H1 Own1 H'' Own' ∧ forL (bindT t) (wpSs Γ b) (ds.drop (i + 1)) env' P
        ct := fun σ'' H'' => ∃ Own' env', i + 1 + (m - 1) = ds.length ∧ SOk K mg Fo fx σ'' H'' Own' env' ∧ Le H1 Own1 H'' Own' ∧ forL (bindT t) (wpSs Γ b) (ds.drop (i + 1)) env' P
        bk := D.nx } σ2 H3 := fun H2 Own2 S2 l2 rx => by
      refine gTg_mono (fun σ3 H3 hh => ?_) (bind_sound hq' S2 rx (notIns hl hn))
      obtain ⟨rfl, env3, S3, q3, _⟩ := hh
      have l3 : Le H1 Own1 H3 Own2 := l'.trans l2
      refine ⟨Fo, fx, Own2, env3, _, S3, hl, q3, ?_, ?_, ?_, ?_, ?_⟩
      · exact fun σ4 H4 Own4 env4 S4 l4 q4 => ⟨Own4, env4, by omega, S4, l3.trans l4, q4⟩
      · exact fun σ4 H4 Own4 env4 S4 l4 q4 => en.nx σ4 H4 Own4 env4 S4 (l1.trans (l3.trans l4)) q4
      · exact fun σ4 H4 Own4 env4 S4 l4 q4 => ⟨Own4, env4, by omega, S4, l3.trans l4, q4⟩
      · exact fun σ4 H4 Own4 env4 r v S4 l4 ro q4 => en.rt σ4 H4 Own4 env4 r v S4 (l1.trans (l3.trans l4)) ro q4
      · exact fun σ4 => (en.ex σ4).le (l1.trans l3)
    rcases hY i ds[i] H' Own' x H2 hd S'.ok l' (wk.yields i H' x H2 hlt (hG H' Own' l') hy) with ⟨rfl, rx⟩ | ⟨T, ws, es, rfl, hT, rfl, ed, rs⟩
    · exact step _ Own' S' Le.refl rx
    · refine step _ Own' (S'.new hT) (Le.new hT) ?_
      rw [ed]
      exact Rep.tup_of (.inl (.inl upd_same)) (Reps.le (Le.new hT) S'.ok es ws rs)
  · have hi : i = ds.length := by omega
    subst hi
    refine .inl ⟨wk.stops H' (hG H' Own' l'), ?_⟩
    rw [List.drop_length, forL] at hq'
    exact en.nx σ' H' Own' env' S' (l1.trans l') hq'
theorem rd_while {t : Ts} {b : Sms} {D : Ends} {σ : L2.St} {H : Hp} (h : TS1 K mg Γ W lent (.while_ t b) D σ H) : tWhile (TT' K mg Γ W t) (TSs K mg Γ W lent b) D σ H := by
  obtain ⟨Fo, fx, Own, env, P, S, hl, hw, en⟩ := h
  simp only [wpS] at hw
  obtain ⟨n, hw⟩ := hw
  refine ⟨fun m σ' H' => ∃ Own' env', SOk K mg Fo fx σ' H' Own' env' ∧ Le H Own H' Own' ∧ whL (fun e Q => wpT Γ t e Q P.ex) (wpSs Γ b) m env' P, ⟨n, Own, env, S, Le.refl, hw⟩, fun m σ' H' hi => ?_⟩
  obtain ⟨Own', env', S', l', hq⟩ := hi
  cases m with
  | zero => exact hq.elim
  | succ m =>
    rw [whL] at hq
    refine ⟨Fo, fx, Own', env', _, _, S', hq, fun k H1 Own1 env1 S1 l1 hq1 => ?_, (en.ex σ').le l'⟩
    have l2 := l'.trans l1
    cases k with
    | false => exact L2.iteF (en.nx σ' H1 Own1 env1 S1 l2 (hq1.2 rfl))
    | true =>
      refine L2.iteT ⟨fun σ'' H'' => ∃ Own' env', SOk K mg Fo fx σ'' H'' Own' env' ∧ Le H Own H'' Own' ∧ whL (fun e Q => wpT Γ t e Q P.ex) (wpSs Γ b) m env' P, fun σ'' H'' hh => ⟨m, by omega, hh⟩, ?_⟩
      refine ⟨Fo, fx, Own1, env1, _, S1, hl, hq1.1 rfl, ?_, ?_, ?_, ?_, ?_⟩
      · exact fun σ4 H4 Own4 env4 S4 l4 q4 => ⟨Own4, env4, S4, l2.trans l4, q4⟩
      · exact fun σ4 H4 Own4 env4 S4 l4 q4 => en.nx σ4 H4 Own4 env4 S4 (l2.trans l4) q4
      · exact fun σ4 H4 Own4 env4 S4 l4 q4 => ⟨Own4, env4, S4, l2.trans l4, q4⟩
      · exact fun σ4 H4 Own4 env4 r v S4 l4 ro q4 => en.rt σ4 H4 Own4 env4 r v S4 (l2.trans l4) ro q4
      · exact fun σ4 => (en.ex σ4).le l2
end
end Pd

set_option Elab.async false
set_option linter.all false
set_option maxRecDepth 100000
/-! PyD, part 12: soundness of the check for statements. -/
namespace Pd
open PySem PySem.Spec L2
section
variable {X : Cx} {c : Ck} {Γ : Gam} {W : WX}
structure CokS (X : Cx) (c : Ck) (Γ : Gam) (W : WX) : Prop extends Cok X c Γ W where
  st : StoreOk X (locB X.env.scope)
  kd : X.env.scope.kind = .function
  po : PassesOwn (model X.prog X.w) X.A X.env X.xe

theorem blockK {env : PySem.Env} (h : env.scope.kind = .function) : env.blockKind = .function := by unfold Env.blockKind; rw [h]; rfl
theorem swaps_plain {e : Expr} {t : Option Expr} {l : Nat} {env : PySem.Env} (h : notLC e = true) : swapsWith e t l env = pure false := by
  cases e <;> first
    | rfl
    | (cases h)
theorem swaps_name {elt : Expr} {gs : List Comprehension} {s : Scope} {pos : Pos} {t : Str} {p : Pos} {l : Nat} {env : PySem.Env} (hk : env.scope.kind = .function) :
    swapsWith (.ListComp elt gs s pos) (some (.Name t p)) l env = pure ((env.scope.names.lookup t == some .local) && (p.line == pos.line) && !(s.names.any fun (n, k) => n == t && (k == .local || k == .cell))) := by
  unfold swapsWith
  simp only [blockK hk, Expr.pos]
  rfl
theorem swaps_F {tg e : Expr} {l : Nat} {env : PySem.Env} (hk : env.scope.kind = .function) (h : swF env.scope tg e = true) : swapsWith e (some tg) l env = pure false := by
  unfold swF at h
  split at h
  · rw [swaps_name hk]
    have := h
    rw [Bool.not_eq_true'] at this
    rw [this]
  · exact swaps_plain h
theorem swaps_T {t : Str} {p : Pos} {e : Expr} {l : Nat} {env : PySem.Env} (hk : env.scope.kind = .function) (h : swT env.scope (.Name t p) e = true) : swapsWith e (some (.Name t p)) l env = pure true ∧ env.scope.names.lookup t = some .local := by
  unfold swT at h
  split at h
  · rename_i heq
    cases heq
    rw [swaps_name hk, h]
    simp only [Bool.and_eq_true] at h
    exact ⟨rfl, by simpa using h.1.1⟩
  · cases h
theorem stores_none {tg e : Expr} {env : PySem.Env} (h : (match tg with | .Name _ _ => true | _ => notTup e) = true) : swappedStores [tg] e env = pure none := by
  cases tg <;> first
    | rfl
    | (cases e <;> first | rfl | (cases h))
theorem each_one {tg : Expr} {env : PySem.Env} (h : ∀ t p, tg ≠ .Starred t p) : (assignEach [tg] env).map (·.2) = [assign tg env] := by
  cases tg <;> first
    | rfl
    | exact absurd rfl (h _ _)
/-- a comprehension, stored -/
theorem ps_swap (C : CokS X c Γ W) {vs : List Nat} {tg : Tg} {it : Pd.It} {ts : Tss} {a : Ex} {i : Nat} {x : Str} {p pos : Pos} {e : Expr} (hi : X.N[i]? = some x) (h : okE c X.env.scope (.comp vs tg it ts a) e = true) (hs : swT X.env.scope (.Name x p) e = true) :
    PS X (.Assign [.Name x p] e pos) (tAsg (TXF X.K X.mg Γ W (.comp vs tg it ts a)) (gName i)) := by
  obtain ⟨elt, tgt, iter, ifs, scope, pos', rfl, h1, h2, h3, h4, h5, h6, h7, h8, h9⟩ := inv_comp h
  obtain ⟨g1, g2⟩ := swaps_T (l := pos.line) C.kd hs
  have blk : ∀ (s : Shared) (H : Hp) (D : Addr) (cl : List (Str × Addr)) (fp : List Addr), Cok (X.blk s H scope (compEnvC scope cl D X.env) fp) c Γ Wf := fun s H D cl fp =>
    ⟨C.N, C.nd, C.calm, C.units, C.fns, C.gn, C.bl, C.cons, takesF⟩
  have ht : ∀ (s : Shared) (H : Hp) (D : Addr) (cl : List (Str × Addr)) (fp : List Addr), PTs (X.blk s H scope (compEnvC scope cl D X.env) fp) ifs (TTs X.K X.mg Γ Wf true ts) := fun s H D cl fp => by
    cases ts with
    | nil =>
      obtain rfl := okTs_nil h7
      exact pts_none
    | cons t r =>
      obtain ⟨e1, es1, rfl, k1, k2⟩ := okTs_cons h7
      have : es1 = [] := by
        cases es1 with
        | nil => rfl
        | cons => simp at h6
      subst this
      have : r = .nil := by
        cases r with
        | nil => rfl
        | cons => simp [okTs] at k2
      subst this
      exact pts_some (sT t (blk s H D cl fp) k1)
  have := ps_setLc (g := gTg X.K tg) (tt := TTs X.K X.mg Γ Wf true ts) (te := TX X.K X.mg Γ Wf a) (i := i) (y := x) (py := p) (spos := pos) C.calm C.nd hi g2 g1 (sI it C.toCok h1) (blkOk_by (by rw [C.N]; exact h2))
    (fun s H D cl fp => pg_tg (X := X.blk s H scope (compEnvC scope cl D X.env) fp) C.N C.nd C.calm storeOk_loc h5) ht (fun s H D cl fp => sE a (blk s H D cl fp) h8) (folded_nice h9)
  refine PS.imp this fun De σ H hx => ?_
  rw [h3]
  exact comp_core h4 σ H _ hx
theorem sF (C : Cok X c Γ W) {ie : Ex} {e : Expr} (h : okE c X.env.scope ie e = true) (hf : isFr ie = true) : PE X e (TXG X.K X.mg Γ W ie) := by
  cases ie with
  | comp vs tg it ts a =>
    obtain ⟨elt, tgt, iter, ifs, scope, pos, rfl, h1, h2, h3, h4, h5, h6, h7, h8, h9⟩ := inv_comp h
    refine Pd.PE.gOfF (pd_comp C h2 h3 h4 h5 h9 (sI it C h1) (fun Y D hs => ?_) (fun Y D hs => by rw [← hs] at h8; exact sE a D h8))
    cases ts with
    | nil =>
      obtain rfl := okTs_nil h7
      exact pts_none
    | cons t r =>
      obtain ⟨e1, es1, rfl, k1, k2⟩ := okTs_cons h7
      have : es1 = [] := by
        cases es1 with
        | nil => rfl
        | cons => simp at h6
      subst this
      have : r = .nil := by
        cases r with
        | nil => rfl
        | cons => simp [okTs] at k2
      subst this
      exact pts_some (sT t D (by rw [← hs] at k1; exact k1))
  | pr p as =>
    obtain ⟨es, hs, ha, hd⟩ := inv_pr h
    have pe := sAs as C ha
    cases p with
    | lstD => exact Pd.PE.gOfF (sound_lstD (by simpa [isDisp] using hd) hs pe)
    | lstOf => exact Pd.PE.gOfF (sound_lstOf C hs pe)
    | add =>
      obtain ⟨a, b, q, rfl, rfl⟩ := shBin_of hs
      obtain ⟨ta, tb, et, h1, h2, _⟩ := pe.two
      exact pe_addG (by rw [et]; exact pe_op op_addA h1 h2)
    | _ => cases hf
  | _ => cases hf
theorem nm_of (C : CokS X c Γ W) {i : Nat} {x : Str} {p : Pos} (h : okNm c X.env.scope i x = true) : X.N[i]? = some x ∧ Loc X.env.scope x ∧ (X.fn x = true ∨ X.env.scope.names.lookup x = some .local) := by
  unfold okNm at h
  rw [Bool.and_eq_true, decide_eq_true_eq] at h
  obtain ⟨l, f⟩ := C.st x h.2
  exact ⟨by rw [C.N]; exact h.1, l, f⟩
theorem iop_of {p : Pr} {op : Operator} (h : augOf p = some op) : ∃ r : R2, PIp X op r ∧ ∀ H Own ds vs Q (R : VK), RepOs X.K X.mg H Own ds vs → p.aw ds Q → (∀ v d, Rep X.K X.mg H Own d v → Q d → R v H) → r2 r vs H R := by
  have gen : ∀ {C : Int → Int → Prop} {f : Int → Int → Int} H Own ds vs Q (R : VK), RepOs X.K X.mg H Own ds vs → pInt C f ds Q → (∀ v d, Rep X.K X.mg H Own d v → Q d → R v H) → r2 (rI C fun i j => .int (f i j)) vs H R := by
    intro C f H Own ds vs Q R rp hw k
    unfold pInt at hw
    split at hw
    · obtain ⟨v, w, rfl, h1, h2⟩ := rp.two
      rw [h1.int, h2.int]
      exact ⟨_, _, rfl, rfl, hw.1, k _ (.int _) (by simp only [Rep]) hw.2⟩
    · exact hw.elim
  cases p <;> first
    | (cases h; done)
    | skip
  · cases h
    exact ⟨rI (fun _ _ => True) fun i j => .int (i + j), fun pins s σ H x y v u Q I r1 r2 h => iop_add pins s σ H x y v u Q I r1 r2 (by obtain ⟨i, j, e1, e2, _, q⟩ := h; exact ⟨i, j, e1, e2, q⟩), gen⟩
  · cases h
    exact ⟨rI (fun _ _ => True) fun i j => .int (i - j), fun pins s σ H x y v u Q I r1 r2 h => iop_sub pins s σ H x y v u Q I r1 r2 (by obtain ⟨i, j, e1, e2, _, q⟩ := h; exact ⟨i, j, e1, e2, q⟩), gen⟩
  · cases h
    exact ⟨rI CMul fun i j => .int (i * j), iop_mul, gen⟩
  · cases h
    exact ⟨rI (fun _ b => 0 < b) fun i j => .int (i % j), iop_mod, gen⟩
/-- xs[i] of a list -/
theorem get_list : PGet X (rIxL X.K) := by
  intro pins s σ H o i ov iv Q I r1 r2 h
  obtain ⟨p, xs, k, z, rfl, rfl, hq, he, q⟩ := h
  cases r1
  obtain ⟨t, rfl⟩ := r2
  obtain ⟨its, r, pl, hz⟩ := I.list hq
  obtain ⟨j, h1, h2, h3, h4, h5⟩ := atI_get he
  obtain ⟨w, ew, rw'⟩ := r.get h2
  have hl := r.length
  have hn := line63
  have fin : EP X pins σ Q w s := ⟨z, H, I, rw', q⟩
  by_cases h0 : 0 ≤ k
  · have hj : k.toNat = j := by
      rw [seqIndex_of h0 h5] at h1
      exact Option.some.inj h1
    exact wpAny_getItem_list pl.isList h0 (by omega) (by rw [hj]; simpa using ew) fin
  · have hj : (k + (its.toArray.size : Int)).toNat = j := by
      rw [seqIndex_neg (by omega) h4] at h1
      rw [List.size_toArray, ← hl]
      exact Option.some.inj h1
    exact wpAny_getItem_list_neg pl.isList (by omega) (by rw [List.size_toArray] <;> omega) (by omega) (by rw [hj]; simpa using ew) fin
theorem plainIx' {k : Expr} (h : nice k = true) {ov iv new : Value} : augStore k ov iv new = (do holding [new, ov, iv] (setItem ov iv new); release [new, ov, iv] []; pure .next) := by
  cases k <;> first
    | rfl
    | (cases h)
theorem assign_sub {k o : Expr} {p : Pos} {env : PySem.Env} (h : nice k = true) (v : Value) : assign (.Subscript o k p) env v = (do
      let ov ← holding [v] (eval o env)
      let iv ← holding [v, ov] (eval k env)
      standAt p
      holding [v, ov, iv] (setItem ov iv v)
      release [v, ov, iv] []) := by
  cases k <;> first
    | rfl
    | (cases h)
theorem rd_setix {K : PySem.W.Frag} {mg : Str → Option Value} {lent : List Nat} {i : Nat} {ik ie : Ex} {De : Ends} {σ : L2.St} {H : Hp} (h : TS1 K mg Γ W lent (.setix i ik ie) De σ H) : tAsg (TX K mg Γ W ie) (gSub (tVar i) (TX K mg Γ W ik) rSetL) De σ H := by
  obtain ⟨Fo, fx, Own, env, P, S, hl, hw, en⟩ := h
  simp only [wpS] at hw
  refine ⟨Fo, fx, Own, env, _, _, S, hw, fun v H1 Own1 env1 d S1 l1 rd hq => ?_, en.ex σ⟩
  obtain ⟨⟨xs, e0⟩, hq⟩ := hq
  obtain ⟨a, us, q1, q2, q3, q4⟩ := S1.own e0
  refine ⟨.ref a, q1, Fo, fx, Own1, env1, _, _, S1, hq, fun w H2 Own2 env2 n S2 l2 rn hq => ?_, (en.ex σ).le l1⟩
  obtain ⟨m, ds, j, rfl, e1, e2, hq⟩ := hq
  simp only [Rep] at rn
  subst rn
  obtain ⟨a', ws, k1, k2, k3, k4⟩ := S2.own e1
  have : a' = a := by rw [q1] at k1; cases k1; rfl
  subst this
  obtain ⟨S3, l3⟩ := S2.write e1 q1 (k4.set (Rep.le l2 S1.ok d v rd) j)
  exact ⟨a', ws, m, j, rfl, rfl, k3, by rw [k4.length]; exact e2, en.nx σ _ _ _ S3 ((l1.trans l2).trans l3) hq⟩
theorem atI_of {α : Type} {xs : List α} {k : Int} {j : Nat} {x : α} (h : ixN xs.length k = some j) (e : xs[j]? = some x) : atI xs k = some x := by
  unfold atI
  rw [h]
  exact e
theorem rd_augix {K : PySem.W.Frag} {mg : Str → Option Value} {lent : List Nat} {i : Nat} {ik ie : Ex} {p : Pr} {De : Ends} {σ : L2.St} {H : Hp} {r : R2} (hs : ∀ H Own ds vs Q (R : VK), RepOs K mg H Own ds vs → p.aw ds Q → (∀ v d, Rep K mg H Own d v → Q d → R v H) → r2 r vs H R)
    (h : TS1 K mg Γ W lent (.augix i ik p ie) De σ H) : tAugS (tVar i) (TX K mg Γ W ik) (TX K mg Γ W ie) (rIxL K) r rSetL De σ H := by
  obtain ⟨Fo, fx, Own, env, P, S, hl, hw, en⟩ := h
  simp only [wpS] at hw
  obtain ⟨⟨xs, e0⟩, hw⟩ := hw
  obtain ⟨a, us, q1, q2, q3, q4⟩ := S.own e0
  refine ⟨.ref a, q1, Fo, fx, Own, env, _, _, S, hw, fun w H1 Own1 env1 n S1 l1 rn hq => ?_, en.ex σ⟩
  obtain ⟨m, ds, j, x, rfl, e1, e2, e3, hq⟩ := hq
  simp only [Rep] at rn
  subst rn
  obtain ⟨a', ws, k1, k2, k3, k4⟩ := S1.own e1
  have : a' = a := by rw [q1] at k1; cases k1; rfl
  subst this
  obtain ⟨v, g1, g2⟩ := k4.get e3
  refine ⟨a', ws, m, v, rfl, rfl, SqL.of k3, atI_of (by rw [k4.length]; exact e2) g1, ?_⟩
  refine ⟨Fo, fx, Own1, env1, _, _, S1, hq, fun u H2 Own2 env2 y S2 l2 ry hq => ?_, (en.ex σ).le l1⟩
  refine hs H2 Own2 [x, y] [v, u] _ _ ⟨v, [u], rfl, .inl (Rep.le l2 S1.ok x v g2), u, [], rfl, .inl ry, rfl⟩ hq fun t z rz hz => ?_
  obtain ⟨hz1, hz⟩ := hz
  obtain ⟨a2, ws2, m1, m2, m3, m4⟩ := S2.own hz1
  have : a2 = a' := by rw [q1] at m1; cases m1; rfl
  subst this
  obtain ⟨S3, l3⟩ := S2.write hz1 q1 (m4.set rz j)
  exact ⟨a2, ws2, m, j, rfl, rfl, m3, by rw [m4.length]; exact e2, en.nx σ _ _ _ S3 ((l1.trans l2).trans l3) hz⟩
theorem rd_app {K : PySem.W.Frag} {mg : Str → Option Value} {lent : List Nat} {i : Nat} {ie : Ex} {De : Ends} {σ : L2.St} {H : Hp} (h : TS1 K mg Γ W lent (.app i ie) De σ H) : tDrop (tBM K "list" rAppend (tVar i) (nest [TX K mg Γ W ie])) De σ H := by
  obtain ⟨Fo, fx, Own, env, P, S, hl, hw, en⟩ := h
  simp only [wpS] at hw
  obtain ⟨⟨xs, e0⟩, hw⟩ := hw
  obtain ⟨a, us, q1, q2, q3, q4⟩ := S.own e0
  refine ⟨.ref a, q1, .inl ⟨rfl, us, SqL.of q3⟩, Fo, fx, Own, env, _, _, S, hw, fun v H1 Own1 env1 d S1 l1 rd hq => ?_, en.ex σ⟩
  obtain ⟨ds, e1, e2, hq⟩ := hq
  obtain ⟨a', ws, k1, k2, k3, k4⟩ := S1.own e1
  have : a' = a := by rw [q1] at k1; cases k1; rfl
  subst this
  obtain ⟨S3, l3⟩ := S1.write e1 q1 (k4.append (Reps.cons rd .nil))
  exact ⟨a', ws, v, rfl, rfl, k3, by rw [k4.length]; exact e2, en.nx σ _ _ _ S3 (l1.trans l3) hq⟩
def starB : Expr → Bool
  | .Starred .. => true
  | _ => false
theorem starB_nice {e : Expr} (h : nice e = true) : starB e = false := by
  cases e <;> first
    | rfl
    | (cases h)
def lcName (env : PySem.Env) (l : Nat) : Expr → Option Str
  | .Name id pos => if env.kindOf id == some .local && pos.line == l then some id else none
  | _ => none
theorem par_stores {x y : Str} {px py pt : Pos} {kt k2 : Nat} {pt2 : Pos} {a b : Expr} {env : PySem.Env} (hk : env.scope.kind = .function) (h1 : (env.scope.names.lookup x == some .local) = true) (h2 : (env.scope.names.lookup y == some .local) = true) (hl : (px.line == py.line) = true) (hne : x ≠ y)
    (na : nice a = true) (nb : nice b = true) (f1 : (!([a, b].all (foldedForSure 8))) = true) (f2 : (!([a, b].all (constantsAlone 8))) = true) :
    swappedStores [.Tuple [.Name x px, .Name y py] kt pt] (.Tuple [a, b] k2 pt2) env = pure (some [x, y]) := by
  have fm : [Expr.Name x px, Expr.Name y py].filterMap (lcName env px.line) = [x, y] := by
    have e1 : lcName env px.line (.Name x px) = some x := by
      show (if (env.kindOf x == some .local && px.line == px.line) = true then some x else none) = some x
      rw [if_pos]
      rw [Bool.and_eq_true]
      exact ⟨h1, by simp⟩
    have e2 : lcName env px.line (.Name y py) = some y := by
      show (if (env.kindOf y == some .local && py.line == px.line) = true then some y else none) = some y
      rw [if_pos]
      rw [Bool.and_eq_true]
      have hl' : px.line = py.line := by simpa using hl
      exact ⟨h2, by rw [hl']; simp⟩
    rw [List.filterMap_cons_some e1, List.filterMap_cons_some e2, List.filterMap_nil]
  unfold swappedStores
  dsimp only
  refine (if_neg ?_).trans ?_
  · rw [blockK hk]
    intro h
    cases h
  refine (if_neg ?_).trans ?_
  · intro h
    have h : (starB a || (starB b || false)) = true := h
    rw [starB_nice na, starB_nice nb] at h
    cases h
  have de : [x, y].eraseDups.length = 2 := by
    have : (y == x) = false := by simpa using fun e => hne e.symm
    simp [List.eraseDups_cons, this]
  refine (if_neg ?_).trans ?_
  · intro h
    have h : (([Expr.Name x px, Expr.Name y py].filterMap (lcName env px.line)).length != 2 || ([Expr.Name x px, Expr.Name y py].filterMap (lcName env px.line)).eraseDups.length != ([Expr.Name x px, Expr.Name y py].filterMap (lcName env px.line)).length) = true := h
    rw [fm, de] at h
    cases h
  refine (if_neg ?_).trans ?_
  · intro h
    rw [h] at f1
    cases f1
  refine (if_neg ?_).trans ?_
  · intro h
    rw [h] at f2
    cases f2
  show pure (some ([Expr.Name x px, Expr.Name y py].filterMap (lcName env px.line))) = pure (some [x, y])
  rw [fm]

mutual
theorem sS (C : CokS X c Γ W) : ∀ (s : Sm) {st : Stmt}, okS c X.env.scope s st = true → PS X st (TS1 X.K X.mg Γ W c.lent s)
  | .asg t ie, st, h => by
    unfold okS at h
    split at h <;> (try (rename_i heq; cases heq)) <;> first | (cases h; done) | skip
    rename_i tg e pos
    simp only [Bool.and_eq_true] at h
    obtain ⟨⟨⟨⟨h1, h2⟩, h3⟩, h4⟩, h5⟩ := h
    rw [Bool.or_eq_true] at h5
    rcases h5 with h5 | h5
    · refine PS.imp (ps_asg (sE ie C.toCok h2) (pg_tg C.N C.nd C.calm C.st h1) (swaps_F (l := pos.line) C.kd h5) (stores_none h4) (each_one fun t' p z => ?_)) fun De σ H hx => rd_asg h3 hx
      subst z
      cases t <;> cases h1
    · split at h5
      · rename_i vs tg' it ts a
        cases tg with
        | Name x p =>
          cases t with
          | nm i =>
            have h1' : (decide (c.N[i]? = some x) && locB X.env.scope x) = true := h1
            rw [Bool.and_eq_true, decide_eq_true_eq] at h1'
            refine PS.imp (ps_swap C (by rw [C.N]; exact h1'.1) h2 h5) fun De σ H hx => ?_
            exact tx_of_f _ _ _ (rd_asg h3 hx)
          | tp is => cases h1
        | _ => cases h5
      · cases h5
  | .asgO i ie, st, h => by
    unfold okS at h
    split at h <;> (try (rename_i heq; cases heq)) <;> first | (cases h; done) | skip
    rename_i x p e pos
    simp only [Bool.and_eq_true] at h
    obtain ⟨⟨⟨⟨h1, h2⟩, h3⟩, h4⟩, h5⟩ := h
    obtain ⟨n1, n2, n3⟩ := nm_of (p := p) C h1
    rw [Bool.or_eq_true] at h5
    rcases h5 with h5 | h5
    · exact PS.imp (ps_asg (sF C.toCok h2 h3) (pg_name C.nd n1 n2 n3) (swaps_F (l := pos.line) C.kd h5) (stores_none rfl) rfl) fun De σ H hx => rd_asgO h4 hx
    · split at h5
      · exact PS.imp (ps_swap C n1 h2 h5) fun De σ H hx => tg_of_f _ _ _ (rd_asgO h4 hx)
      · cases h5
  | .asgC i f as, st, h => by
    unfold okS at h
    split at h <;> (try (rename_i heq; cases heq)) <;> first | (cases h; done) | skip
    simp only [Bool.and_eq_true, decide_eq_true_eq] at h
    obtain ⟨⟨⟨⟨⟨h1, h2⟩, h3⟩, h4⟩, h5⟩, h6⟩ := h
    obtain ⟨n1, n2, n3⟩ := nm_of (p := ⟨0, 0, 0, 0⟩) C h1
    exact PS.imp (ps_asg (call_core C.toCok h3 h4 h5 (sAs as C.toCok h6)) (pg_name C.nd n1 n2 n3) rfl (stores_none rfl) rfl) fun De σ H hx => rd_asgC h2 hx
  | .par i j a b, st, h => by
    unfold okS at h
    split at h <;> (try (rename_i heq; cases heq)) <;> first | (cases h; done) | skip
    simp only [Bool.and_eq_true, decide_eq_true_eq] at h
    obtain ⟨⟨⟨⟨⟨⟨⟨⟨⟨⟨⟨⟨⟨h1, h2⟩, h3⟩, h4⟩, h5⟩, h6⟩, h7⟩, h8⟩, h9⟩, h10⟩, h11⟩, h12⟩, h13⟩, h14⟩ := h
    refine PS.imp (ps_par C.calm C.nd (by rw [C.N]; exact h1) (by rw [C.N]; exact h2) h3 (by simpa using h4) (by simpa using h5) (PEs.pa (.cons h9 (sE a C.toCok h13) (.cons h10 (sE b C.toCok h14) .nil)))
      (par_stores C.kd h4 h5 h8 (fun z => h3 ?_) h9 h10 h11 h12) rfl) fun De σ H hx => rd_par h6 h7 hx
    subst z
    rw [← h2] at h1
    exact (List.getElem?_inj (by obtain ⟨z, _⟩ := List.getElem?_eq_some_iff.mp (h1.trans h2); exact z) (C.N ▸ C.nd)).mp h1
  | .aug i p ie, st, h => by
    unfold okS at h
    split at h <;> (try (rename_i heq; cases heq)) <;> first | (cases h; done) | skip
    simp only [Bool.and_eq_true, decide_eq_true_eq] at h
    obtain ⟨⟨⟨h1, h2⟩, h3⟩, h4⟩ := h
    obtain ⟨n1, n2, n3⟩ := nm_of (p := ⟨0, 0, 0, 0⟩) C h1
    obtain ⟨r, hp, hs⟩ := iop_of (X := X) h3
    exact PS.imp (ps_aug C.nd n1 n2 (sE ie C.toCok h4) hp n3) fun De σ H hx => rd_aug h2 hs hx
  | .ret ie, st, h => by
    unfold okS at h
    split at h <;> (try (rename_i heq; cases heq)) <;> first | (cases h; done) | skip
    exact PS.imp (ps_ret (sE ie C.toCok h)) fun De σ H hx => rd_ret hx
  | .retO ie, st, h => by
    unfold okS at h
    split at h <;> (try (rename_i heq; cases heq)) <;> first | (cases h; done) | skip
    rw [Bool.and_eq_true] at h
    exact PS.imp (ps_ret (sF C.toCok h.1 h.2)) fun De σ H hx => rd_retO hx
  | .retN, st, h => by
    unfold okS at h
    split at h <;> (try (rename_i heq; cases heq)) <;> first | (cases h; done) | skip
    refine PS.imp ps_retN fun De σ H hx => ?_
    obtain ⟨Fo, fx, Own, env, P, S, hl, hw, en⟩ := hx
    simp only [wpS] at hw
    exact en.rt σ H Own env (.v .non) .non S Le.refl (by simp only [RetOk, Rep]) hw
  | .pass, st, h => by
    unfold okS at h
    split at h <;> (try (rename_i heq; cases heq)) <;> first | (cases h; done) | skip
    refine PS.imp ps_pass fun De σ H hx => ?_
    obtain ⟨Fo, fx, Own, env, P, S, hl, hw, en⟩ := hx
    simp only [wpS] at hw
    exact en.nx σ H Own env S Le.refl hw
  | .brk, st, h => by
    unfold okS at h
    split at h <;> (try (rename_i heq; cases heq)) <;> first | (cases h; done) | skip
    refine PS.imp ps_break fun De σ H hx => ?_
    obtain ⟨Fo, fx, Own, env, P, S, hl, hw, en⟩ := hx
    simp only [wpS] at hw
    exact en.bk σ H Own env S Le.refl hw
  | .cont, st, h => by
    unfold okS at h
    split at h <;> (try (rename_i heq; cases heq)) <;> first | (cases h; done) | skip
    refine PS.imp ps_continue fun De σ H hx => ?_
    obtain ⟨Fo, fx, Own, env, P, S, hl, hw, en⟩ := hx
    simp only [wpS] at hw
    exact en.ct σ H Own env S Le.refl hw
  | .ife t a b, st, h => by
    unfold okS at h
    split at h <;> (try (rename_i heq; cases heq)) <;> first | (cases h; done) | skip
    simp only [Bool.and_eq_true] at h
    exact PS.imp (ps_if (sT t C.toCok h.1.1) (sSs C a h.1.2) (sSs C b h.2)) fun De σ H hx => rd_ife hx
  | .for_ t it b, st, h => by
    unfold okS at h
    split at h <;> (try (rename_i heq; cases heq)) <;> first | (cases h; done) | skip
    simp only [Bool.and_eq_true] at h
    obtain ⟨⟨⟨⟨h1, h2⟩, h3⟩, h4⟩, h5⟩ := h
    exact PS.imp (ps_for C.po C.calm (sI it C.toCok h2) (pg_tg C.N C.nd C.calm C.st h1) (sSs C b h5) (folded_nice h4)) fun De σ H hx => rd_for h3 hx
  | .while_ t b, st, h => by
    unfold okS at h
    split at h <;> (try (rename_i heq; cases heq)) <;> first | (cases h; done) | skip
    rw [Bool.and_eq_true] at h
    exact PS.imp (ps_while C.po (sT t C.toCok h.1) (sSs C b h.2)) fun De σ H hx => rd_while hx
  | .app i ie, st, h => by
    unfold okS at h
    split at h <;> (try (rename_i heq; cases heq)) <;> first | (cases h; done) | skip
    simp only [Bool.and_eq_true, decide_eq_true_eq] at h
    obtain ⟨⟨⟨⟨h1, rfl⟩, h3⟩, h4⟩, h5⟩ := h
    exact PS.imp (ps_expr (pe_bm PySem.F.plainAttrs_list PySem.F.slot_list_append PySem.F.type_list_append mt_append (ps_var C.toCok h1) (PEs.pa (.cons h5 (sE ie C.toCok h4) .nil)) rfl
      (by rw [star_nice h5]; rfl) h3 (star_nice h5) rfl) (swaps_plain rfl)) fun De σ H hx => rd_app hx
  | .setix i ik ie, st, h => by
    unfold okS at h
    split at h <;> (try (rename_i heq; cases heq)) <;> first | (cases h; done) | skip
    simp only [Bool.and_eq_true] at h
    obtain ⟨⟨⟨h1, h2⟩, h3⟩, h4⟩ := h
    refine PS.imp (ps_asg (sE ie C.toCok h4) (pg_sub (ps_var C.toCok h1) (sE ik C.toCok h3) set_list fun v => assign_sub h2 v) ?_ rfl rfl) fun De σ H hx => rd_setix hx
    · rename_i e _
      cases e <;> rfl
  | .augix i ik p ie, st, h => by
    unfold okS at h
    split at h <;> (try (rename_i heq; cases heq)) <;> first | (cases h; done) | skip
    simp only [Bool.and_eq_true, decide_eq_true_eq] at h
    obtain ⟨⟨⟨⟨h1, h2⟩, h3⟩, h4⟩, h5⟩ := h
    obtain ⟨r, hp, hs⟩ := iop_of (X := X) h3
    exact PS.imp (ps_augS (ps_var C.toCok h1) (sE ik C.toCok h4) get_list (sE ie C.toCok h5) hp set_list (fun _ _ _ => plainIx' h2)) fun De σ H hx => rd_augix hs hx
  | .expr ie, st, h => by
    unfold okS at h
    split at h <;> (try (rename_i heq; cases heq)) <;> first | (cases h; done) | skip
    rw [Bool.and_eq_true] at h
    exact PS.imp (ps_expr (sE ie C.toCok h.1) (swaps_plain h.2)) fun De σ H hx => rd_expr hx
theorem sSs (C : CokS X c Γ W) : ∀ (b : Sms) {sts : List Stmt}, okSs c X.env.scope b sts = true → PSs X sts (TSs X.K X.mg Γ W c.lent b)
  | .nil, sts, h => by
    cases sts with
    | nil =>
      refine PSs.imp pss_nil fun De σ H hx => ?_
      obtain ⟨Fo, fx, Own, env, P, S, hl, hw, en⟩ := hx
      simp only [wpSs] at hw
      exact en.nx σ H Own env S Le.refl hw
    | cons => simp [okSs] at h
  | .cons s r, sts, h => by
    cases sts with
    | nil => simp [okSs] at h
    | cons st sts =>
      simp only [okSs, Bool.and_eq_true] at h
      exact PSs.imp (pss_cons (sS C s h.1) (sSs C r h.2)) fun De σ H hx => rd_seq hx
end
end
end Pd

set_option Elab.async false
set_option linter.all false
set_option maxRecDepth 100000
/-! PyD, part 13: a def keeps its promise over data. -/
namespace Pd
open PySem PySem.Spec L2

/-- the defs below keep their promises -/
def GamOk (P : Program) (w : World) (K : PySem.W.Frag) (mg : Str → Option Value) (base : Heap) (k : Nat) (Γ : Gam) : Prop := ∀ (f : Nat) (x : Str) (n : Nat) (sp : DSp), Γ[f]? = some (x, n, sp) → ∃ (fa : Addr) (fd : FuncData) (ps : List Str), ps.length = n ∧
  FnOk P w K mg base (L2.CX P w) k fa fd ps (spOf K mg n sp) ∧ mg x = some (.ref fa) ∧ PySem.W.keepIn K (.ref fa) = true ∧ Binds K fd ps []
/-- what a def leaves of its parameters -/
def outP (ss : List Sl) (env : Env) : List Sl := (List.range ss.length).map fun i => match getS ss i with
  | .own _ => getS env i
  | _ => .un
def ent (ss : List Sl) (m : Nat) : Env := ss ++ List.replicate m .un
/-- what a def's body is to do -/
def bodyP (ss : List Sl) (Q : Rv → List Sl → Prop) (E : Exn → List Sl → Prop) : Po where
  nx := fun env => Q (.v .non) (outP ss env)
  rt := fun r env => Q r (outP ss env)
  bk := fun _ => False
  ct := fun _ => False
  ex := fun x env => E x (outP ss env)

theorem getS_outP {ss : List Sl} {env : Env} {i : Nat} (h : isOwn (getS (outP ss env) i)) : isOwn (getS ss i) ∧ getS (outP ss env) i = getS env i := by
  have key : ∀ (l : List Nat) (g : Nat → Sl) (i : Nat), getS (l.map g) i = match l[i]? with | some j => g j | none => .un := by
    intro l
    induction l with
    | nil => intro g i; simp [getS]
    | cons a l ih =>
      intro g i
      cases i with
      | zero => simp [getS]
      | succ i => simpa [getS] using ih g i
  unfold outP at h ⊢
  rw [key] at h ⊢
  by_cases hi : i < ss.length
  · rw [List.getElem?_range hi] at h ⊢
    simp only at h ⊢
    cases q : getS ss i with
    | own xs => exact ⟨trivial, rfl⟩
    | un => rw [q] at h; exact h.elim
    | val d => rw [q] at h; exact h.elim
  · rw [List.getElem?_eq_none (by simpa using hi)] at h
    exact h.elim
theorem length_outP {ss : List Sl} {env : Env} : (outP ss env).length = ss.length := by simp [outP]
theorem getS_append : ∀ {ss : List Sl} {m i : Nat}, getS (ent ss m) i = getS ss i
  | [], m, i => by
    unfold ent
    rw [List.nil_append]
    have : ∀ (m i : Nat), getS (List.replicate m Sl.un) i = .un := by
      intro m
      induction m with
      | zero => intro i; rfl
      | succ m ih =>
        intro i
        cases i with
        | zero => rfl
        | succ i => exact ih i
    rw [this]; rfl
  | s :: ss, m, 0 => rfl
  | s :: ss, m, i + 1 => getS_append (ss := ss) (m := m) (i := i)

section
variable {K : PySem.W.Frag} {mg : Str → Option Value} {Fo : Fgn} {H : Hp} {Own : Addr → Prop}
def fxOf (ss : List Sl) (vs : List V) : List (Nat × Addr) := (List.range ss.length).filterMap fun i => match getS ss i, vs[i]? with
  | .own _, some (.ref a) => some (i, a)
  | _, _ => none
theorem fxOf_mem {ss : List Sl} {vs : List V} {p : Nat × Addr} (h : p ∈ fxOf ss vs) : isOwn (getS ss p.1) ∧ vs[p.1]? = some (.ref p.2) := by
  unfold fxOf at h
  obtain ⟨i, _, h⟩ := List.mem_filterMap.mp h
  split at h
  · rename_i xs a h1 h2
    cases h
    exact ⟨by rw [h1]; trivial, h2⟩
  · cases h
theorem fxOf_of {ss : List Sl} {vs : List V} {i : Nat} {a : Addr} (h : isOwn (getS ss i)) (e : vs[i]? = some (.ref a)) : (i, a) ∈ fxOf ss vs := by
  unfold fxOf
  refine List.mem_filterMap.mpr ⟨i, ?_, ?_⟩
  · rw [List.mem_range]
    exact getS_lt (fun z => by rw [z] at h; exact h)
  · cases q : getS ss i with
    | own xs => simp [e]
    | un => rw [q] at h; exact h.elim
    | val d => rw [q] at h; exact h.elim
theorem SOk.enter {ss : List Sl} {vs : List V} {N : List Str} (S : SOk K mg Fo [] (vs.map some) H Own ss) : SOk K mg Fo (fxOf ss vs) (L2.start N vs) H Own (ent ss (N.length - vs.length)) := by
  have hl : ss.length = vs.length := by rw [S.len, List.length_map]
  have at1 : ∀ {i : Nat}, i < vs.length → (L2.start N vs)[i]? = (vs.map some)[i]? := fun {i} hi => by
    unfold L2.start
    rw [List.getElem?_append_left (by simpa using hi)]
  have lt : ∀ {i : Nat}, isOwn (getS ss i) → i < vs.length := fun {i} h => by rw [← hl]; exact getS_lt (fun z => by rw [z] at h; exact h)
  refine ⟨?_, S.ok, fun i => ?_, fun i j a hij oi oj e => ?_, fun a o f => ?_, fun p hp => ?_⟩
  · unfold ent L2.start
    simp [hl]
  · rw [getS_append]
    have := S.at_ i
    have hlt : getS ss i ≠ .un → i < vs.length := fun z => by rw [← hl]; exact getS_lt z
    revert this hlt
    cases getS ss i with
    | un => intro _ _; trivial
    | val d =>
      rintro ⟨v, e1, e2⟩ hlt
      exact ⟨v, by rw [at1 (hlt (by simp))]; exact e1, e2⟩
    | own ds =>
      rintro ⟨a, us, e1, e2⟩ hlt
      exact ⟨a, us, by rw [at1 (hlt (by simp))]; exact e1, e2⟩
  · rw [getS_append] at oi oj
    rw [at1 (lt oi)] at e
    rw [at1 (lt oj)]
    exact S.dis i j a hij oi oj e
  · obtain ⟨h1, h2, h3⟩ := S.fo a o f
    refine ⟨h1, h2, fun i oi => ?_⟩
    rw [getS_append] at oi
    rw [at1 (lt oi)]
    exact h3 i oi
  · obtain ⟨h1, h2⟩ := fxOf_mem hp
    rw [at1 (lt h1), List.getElem?_map, h2]; rfl
theorem SOk.leave {ss : List Sl} {vs : List V} {σ' : L2.St} {env' : Env} {H' : Hp} {Own' : Addr → Prop} (S : SOk K mg Fo [] (vs.map some) H Own ss) (S' : SOk K mg Fo (fxOf ss vs) σ' H' Own' env') :
    SOk K mg Fo [] (vs.map some) H' Own' (outP ss env') ∧ (∀ i, isOwn (getS (outP ss env') i) → isOwn (getS ss i)) ∧ ∀ r v, RetOk K mg Fo σ' H' Own' env' r v → RetOk K mg Fo (vs.map some) H' Own' (outP ss env') r v := by
  have hl : ss.length = vs.length := by rw [S.len, List.length_map]
  have same : ∀ {i : Nat}, isOwn (getS ss i) → σ'[i]? = (vs.map some)[i]? := fun {i} h => by
    cases q : getS ss i with
    | un => rw [q] at h; exact h.elim
    | val d => rw [q] at h; exact h.elim
    | own ds =>
      obtain ⟨a, us, e1, _⟩ := S.own q
      rw [e1]
      have e2 : vs[i]? = some (.ref a) := by
        rw [List.getElem?_map] at e1
        cases z : vs[i]? with
        | none => rw [z] at e1; cases e1
        | some v => rw [z] at e1; simpa using e1
      exact S'.fx (i, a) (fxOf_of h e2)
  refine ⟨⟨by rw [length_outP, hl, List.length_map], S'.ok, fun i => ?_, fun i j a hij oi oj e => ?_, fun a o f => ?_, fun p hp => by cases hp⟩, fun i h => (getS_outP h).1, fun r v ro => ?_⟩
  · by_cases ho : isOwn (getS ss i)
    · have hg : getS (outP ss env') i = getS env' i := by
        have hlt : i < ss.length := getS_lt (fun z => by rw [z] at ho; exact ho)
        have key : ∀ (l : List Nat) (g : Nat → Sl) (i : Nat), getS (l.map g) i = match l[i]? with | some j => g j | none => .un := by
          intro l
          induction l with
          | nil => intro g i; simp [getS]
          | cons a l ih =>
            intro g i
            cases i with
            | zero => simp [getS]
            | succ i => simpa [getS] using ih g i
        unfold outP
        rw [key, List.getElem?_range hlt]
        cases q : getS ss i with
        | own xs => simp [q]
        | un => rw [q] at ho; exact ho.elim
        | val d => rw [q] at ho; exact ho.elim
      rw [hg]
      have := S'.at_ i
      revert this
      cases getS env' i with
      | un => intro _; trivial
      | val d =>
        rintro ⟨v, e1, e2⟩
        exact ⟨v, by rw [← same ho]; exact e1, e2⟩
      | own ds =>
        rintro ⟨a, us, e1, e2⟩
        exact ⟨a, us, by rw [← same ho]; exact e1, e2⟩
    · have : getS (outP ss env') i = .un := by
        have key : ∀ (l : List Nat) (g : Nat → Sl) (i : Nat), getS (l.map g) i = match l[i]? with | some j => g j | none => .un := by
          intro l
          induction l with
          | nil => intro g i; simp [getS]
          | cons a l ih =>
            intro g i
            cases i with
            | zero => simp [getS]
            | succ i => simpa [getS] using ih g i
        unfold outP
        rw [key]
        by_cases hlt : i < ss.length
        · rw [List.getElem?_range hlt]
          cases q : getS ss i with
          | own xs => rw [q] at ho; exact absurd trivial ho
          | un => simp [q]
          | val d => simp [q]
        · rw [List.getElem?_eq_none (by simpa using hlt)]
      rw [this]; trivial
  · obtain ⟨a1, a2⟩ := getS_outP oi
    obtain ⟨b1, b2⟩ := getS_outP oj
    rw [a2] at oi
    rw [b2] at oj
    rw [← same a1] at e
    rw [← same b1]
    exact S'.dis i j a hij oi oj e
  · obtain ⟨h1, h2, h3⟩ := S'.fo a o f
    refine ⟨h1, h2, fun i oi => ?_⟩
    obtain ⟨a1, a2⟩ := getS_outP oi
    rw [a2] at oi
    rw [← same a1]
    exact h3 i oi
  · cases r with
    | v d => exact ro
    | fr ds =>
      obtain ⟨p, ws, rfl, h1, h2, h3, h4, h5⟩ := ro
      refine ⟨p, ws, rfl, h1, h2, h3, fun i oi => ?_, h5⟩
      obtain ⟨a1, a2⟩ := getS_outP oi
      rw [a2] at oi
      rw [← same a1]
      exact h4 i oi
end

/-- THE RULE for a def -/
theorem def_ok {P : Program} {w : World} {K : PySem.W.Frag} {mg : Str → Option Value} {base : Heap} {x qual : Str} {st : Stmt} {f : Addr} {fd : FuncData} {ps : List Str} {k : Nat} {Γ : Gam} {c : Ck} {n : Nat} {spec : DSp} {body : Sms}
    (F : L2.Fun K x qual st f fd) (S : FnScope c.N ps (defScope st)) (hn : ps.length = n) (hΓ : GamOk P w K mg base k Γ) (gn : c.Gn = Γ.map fun s => (s.1, s.2.1)) (bl : ∀ x ∈ c.Bn, mg x = none) (cons : ConsOk K mg c)
    (hb : okSs c (defScope st) body (defBody st) = true) (hl : ∀ ss Q E, spec ss Q E → ∀ i, isOwn (getS ss i) → i ∈ c.lent)
    (hw : ∀ ss Q E, ss.length = n → spec ss Q E → wpSs Γ body (ent ss (c.N.length - n)) (bodyP ss Q E)) : FnOk P w K mg base (L2.CX P w) (k + 1) f fd ps (spOf K mg n spec) := by
  refine L2.Fun.okX F S (fun vs H Q E h => ?_) fun cdv A outer s H vs Q E hr h => ?_
  · obtain ⟨_, _, _, _, _, hv, _⟩ := h
    rw [hv, hn]
  · obtain ⟨Fo, Own, ss, Qd, Ed, hv, S0, un, sp, okQ, okE⟩ := h
    have hls : ss.length = n := by rw [S0.len, List.length_map, hv]
    have C : CokS (cxOf (L2.CX P w) P w K mg base c.N qual (defScope st) f cdv A outer s H E) c Γ (fun cls d _ H => E cls d H) := by
      refine ⟨⟨rfl, S.nd, rfl, hr.units, fun g y m sp' hg => ?_, gn, bl, cons, takes_of rfl rfl rfl rfl⟩, fun y hy => ?_, S.kind, passes_of rfl⟩
      · obtain ⟨fa, fd', ps', e1, e2, e3, e4, e5⟩ := hΓ g y m sp' hg
        exact ⟨k, fa, fd', ps', e1, e2, hr, e3, e4, e5⟩
      · refine ⟨?_, .inl rfl⟩
        unfold locB at hy
        split at hy
        · exact .inl (by assumption)
        · exact .inr (by assumption)
        · cases hy
    refine ⟨_, sSs C body hb, Fo, fxOf ss vs, Own, ent ss (c.N.length - n), bodyP ss Qd Ed, ?_, fun p hp => ?_, hw ss Qd Ed hls sp, ?_⟩
    · rw [← hv]
      exact S0.enter
    · exact hl ss Qd Ed sp p.1 (fxOf_mem hp).1
    · refine ⟨fun σ' H' Own' env' S' l' q => ?_, fun σ' H' Own' env' S' l' q => q.elim, fun σ' H' Own' env' S' l' q => q.elim, fun σ' H' Own' env' r v S' l' ro q => ?_, fun σ' cls dd H' Own' env' y S' l' xr q => ?_⟩
      · obtain ⟨S2, oo, _⟩ := SOk.leave S0 S'
        exact okQ .non H' Own' (.v .non) _ S2 oo l' (by simp only [RetOk, Rep]) q
      · obtain ⟨S2, oo, rr⟩ := SOk.leave S0 S'
        exact okQ v H' Own' r _ S2 oo l' (rr r v ro) q
      · obtain ⟨S2, oo, _⟩ := SOk.leave S0 S'
        exact okE cls dd H' Own' _ y S2 oo l' xr q
theorem GamOk.nil {P : Program} {w : World} {K : PySem.W.Frag} {mg : Str → Option Value} {base : Heap} {k : Nat} : GamOk P w K mg base k [] := fun f x n sp h => by cases h
theorem GamOk.cons {P : Program} {w : World} {K : PySem.W.Frag} {mg : Str → Option Value} {base : Heap} {k j : Nat} {Γ : Gam} {x : Str} {n : Nat} {sp : DSp} {fa : Addr} {fd : FuncData} {ps : List Str} (hn : ps.length = n)
    (F : FnOk P w K mg base (L2.CX P w) j fa fd ps (spOf K mg n sp)) (hj : j ≤ k) (hm : mg x = some (.ref fa)) (hk : PySem.W.keepIn K (.ref fa) = true) (hb : Binds K fd ps []) (h : GamOk P w K mg base k Γ) : GamOk P w K mg base k ((x, n, sp) :: Γ) := fun f y m sp' e => by
  cases f with
  | zero =>
    cases e
    exact ⟨fa, fd, ps, hn, F.mono hj, hm, hk, hb⟩
  | succ f => exact h f y m sp' e
end Pd

set_option Elab.async false
set_option linter.all false
set_option maxRecDepth 100000
/-! PyD, part 14: small words for the laws' own proofs. -/
namespace Pd
open PySem PySem.Spec L2
theorem at0 {α : Type} {a : α} {r : List α} : atI (a :: r) 0 = some a := by
  unfold atI ixN
  rw [if_pos (by decide), if_pos (by rw [List.length_cons]; omega)]
  rfl
theorem at1 {α : Type} {a b : α} {r : List α} : atI (a :: b :: r) 1 = some b := by
  unfold atI ixN
  rw [if_pos (by decide), if_pos (by simp only [List.length_cons]; omega)]
  rfl
theorem at2 {α : Type} {a b c : α} {r : List α} : atI (a :: b :: c :: r) 2 = some c := by
  unfold atI ixN
  rw [if_pos (by decide), if_pos (by simp only [List.length_cons]; omega)]
  rfl
theorem at3 {α : Type} {a b c d : α} {r : List α} : atI (a :: b :: c :: d :: r) 3 = some d := by
  unfold atI ixN
  rw [if_pos (by decide), if_pos (by simp only [List.length_cons]; omega)]
  rfl
theorem at4 {α : Type} {a b c d e : α} {r : List α} : atI (a :: b :: c :: d :: e :: r) 4 = some e := by
  unfold atI ixN
  rw [if_pos (by decide), if_pos (by simp only [List.length_cons]; omega)]
  rfl
theorem atm1 {α : Type} {a : α} : atI [a] (-1) = some a := rfl
theorem outP1 {s : Sl} {env : Env} : outP [s] env = [match s with | .own _ => getS env 0 | _ => .un] := rfl
theorem outP2 {s t : Sl} {env : Env} : outP [s, t] env = [match s with | .own _ => getS env 0 | _ => .un, match t with | .own _ => getS env 1 | _ => .un] := rfl
theorem outP3 {s t u : Sl} {env : Env} : outP [s, t, u] env = [match s with | .own _ => getS env 0 | _ => .un, match t with | .own _ => getS env 1 | _ => .un, match u with | .own _ => getS env 2 | _ => .un] := rfl
theorem ixn1 : ixN 5 1 = some 1 := rfl
theorem ixn2 : ixN 5 2 = some 2 := rfl
theorem ixn3 : ixN 5 3 = some 3 := rfl
theorem set51 {a b c d e x : D} : [a, b, c, d, e].set 1 x = [a, x, c, d, e] := rfl
theorem set52 {a b c d e x : D} : [a, b, c, d, e].set 2 x = [a, b, x, d, e] := rfl
theorem set53 {a b c d e x : D} : [a, b, c, d, e].set 3 x = [a, b, c, x, e] := rfl
theorem get51 {a b c d e : D} : [a, b, c, d, e][1]? = some b := rfl
/-- a loop whose turns lessen a measure -/
theorem whL_of {c : Env → (Bool → Env → Prop) → Prop} {body : Env → Po → Prop} {P : Po} (I : Nat → Env → Prop)
    (h : ∀ n env, I n env → ∀ R : Env → Prop, (∀ m env', m < n → I m env' → R env') → c env fun b env1 => (b = true → body env1 { P with nx := R, ct := R, bk := P.nx }) ∧ (b = false → P.nx env1)) :
    ∀ n env, I n env → whL c body (n + 1) env P := by
  have key : ∀ n m env, m ≤ n → I m env → whL c body (n + 1) env P := by
    intro n
    induction n with
    | zero =>
      intro m env hm hi
      rw [whL]
      exact h m env hi _ fun m' env' hm' _ => by omega
    | succ n ih =>
      intro m env hm hi
      rw [whL]
      exact h m env hi _ fun m' env' hm' hi' => ih m' env' (by omega) hi'
  exact fun n env hi => key n n env (Nat.le_refl _) hi
/-- a for loop with an invariant over the items left -/
theorem forL_of {tg : D → Env → (Env → Prop) → Prop} {body : Env → Po → Prop} {P : Po} (I : List D → Env → Prop) (h0 : ∀ env, I [] env → P.nx env)
    (h : ∀ d ds env, I (d :: ds) env → ∀ R : Env → Prop, (∀ env', I ds env' → R env') → tg d env fun env1 => body env1 { P with nx := R, ct := R, bk := P.nx }) : ∀ ds env, I ds env → forL tg body ds env P
  | [], env, hi => by
    rw [forL]
    exact h0 env hi
  | d :: ds, env, hi => by
    rw [forL]
    exact h d ds env hi _ fun env' hi' => forL_of I h0 h ds env' hi'
theorem compL_of {body : D → Env → (Option D → Env → Prop) → Prop} {Q : List D → Env → Prop} (I : List D → List D → Env → Prop) (h0 : ∀ acc env, I [] acc env → Q acc env)
    (h : ∀ d ds acc env, I (d :: ds) acc env → ∀ R : Option D → Env → Prop, (∀ y env', acc.length < LINE → I ds (acc ++ [y]) env' → R (some y) env') → (∀ env', I ds acc env' → R none env') → body d env R) : ∀ ds acc env, I ds acc env → compL body ds acc env Q
  | [], acc, env, hi => by
    rw [compL]
    exact h0 acc env hi
  | d :: ds, acc, env, hi => by
    rw [compL]
    refine h d ds acc env hi _ (fun y env' hl hi' => ?_) fun env' hi' => ?_
    · exact ⟨hl, compL_of I h0 h ds (acc ++ [y]) env' hi'⟩
    · exact compL_of I h0 h ds acc env' hi'
end Pd

set_option Elab.async false
set_option linter.all false
set_option maxRecDepth 100000
/-! PyD, part 15: numbers: bounds in bits, the greatest common divisor, equality of data. -/
namespace Pd
open PySem PySem.Spec L2
/-- at most n bits -/
def Bt (n : Nat) (x : Int) : Prop := x.natAbs < 2 ^ n
theorem Bt.mono {n m : Nat} {x : Int} (h : Bt n x) (hm : n ≤ m) : Bt m x := Nat.lt_of_lt_of_le h (Nat.pow_le_pow_right (by omega) hm)
theorem Bt.mul {n m : Nat} {x y : Int} (h : Bt n x) (k : Bt m y) : Bt (n + m) (x * y) := by
  unfold Bt at *
  rw [Int.natAbs_mul, Nat.pow_add]
  exact Nat.mul_lt_mul'' h k
theorem Bt.add {n m : Nat} {x y : Int} (h : Bt n x) (k : Bt m y) : Bt (max n m + 1) (x + y) := by
  have h' := h.mono (Nat.le_max_left n m)
  have k' := k.mono (Nat.le_max_right n m)
  unfold Bt at *
  rw [Nat.pow_succ]
  omega
theorem Bt.neg {n : Nat} {x : Int} (h : Bt n x) : Bt n (-x) := by
  unfold Bt at *
  rw [Int.natAbs_neg]; exact h
theorem Bt.sub {n m : Nat} {x y : Int} (h : Bt n x) (k : Bt m y) : Bt (max n m + 1) (x - y) := by
  rw [Int.sub_eq_add_neg]; exact h.add k.neg
theorem Bt.div {n : Nat} {x : Int} (y : Int) (h : Bt n x) : Bt n (x / y) := Nat.lt_of_le_of_lt (Int.natAbs_ediv_le_natAbs x y) h
theorem Bt.abs {n : Nat} {x : Int} (h : Bt n x) : Bt n (if x < 0 then -x else x) := by
  split
  · exact h.neg
  · exact h
theorem Bt.log {n : Nat} {x : Int} (h : Bt n x) (hn : 0 < n) : x.natAbs.log2 < n := by
  by_cases h0 : x.natAbs = 0
  · rw [h0]; simpa using hn
  · exact (Nat.log2_lt h0).2 h
theorem Bt.mulOk {n m : Nat} {x y : Int} (h : Bt n x) (k : Bt m y) (hn : n + m < 999990) : MulOk x y := by
  refine .inr ?_
  have h' := (h.mono (Nat.le_succ n)).log (Nat.succ_pos n)
  have k' := (k.mono (Nat.le_succ m)).log (Nat.succ_pos m)
  unfold CMulW
  omega
theorem Bt.divOk {n : Nat} {y : Int} (h : Bt n y) (h0 : 0 < y) (hn : n < 8999) : DivOk y := by
  have h' := (h.mono (Nat.le_succ n)).log (Nat.succ_pos n)
  exact ⟨h0, by omega⟩
theorem Bt.of_lt {n : Nat} {x : Int} (h0 : 0 ≤ x) (h : x < 2 ^ n) : Bt n x := by
  unfold Bt
  have : ((x.natAbs : Nat) : Int) < ((2 ^ n : Nat) : Int) := by
    rw [Int.natAbs_of_nonneg h0]
    simpa using h
  exact_mod_cast this
theorem mulOk_l {x y : Int} (h : -(2 ^ 64) < x ∧ x < 2 ^ 64) : MulOk x y := .inl (.inl h)
theorem mulOk_r {x y : Int} (h : -(2 ^ 64) < y ∧ y < 2 ^ 64) : MulOk x y := .inl (.inr h)
theorem divOk_s {y : Int} (h0 : 0 < y) (h : y < 2 ^ 64) : DivOk y := by
  refine Bt.divOk (n := 64) (Bt.of_lt (by omega) h) h0 (by omega)

/-! ### equality of data -/
theorem deq_int {a b : Int} : deq (.int a) (.int b) = decide (a = b) := by
  unfold deq
  simp only [toPy, PyData.eqv]
  by_cases h : a = b
  · subst h; simp
  · simp [h]
theorem deq_bl {a b : Bool} : deq (.bl a) (.bl b) = decide (a = b) := by
  unfold deq
  simp only [toPy, PyData.eqv]
  cases a <;> cases b <;> rfl
theorem plain_int {a : Int} : plain (.int a) := by
  unfold plain; simp only [toPy]; rfl
theorem plain_bl {a : Bool} : plain (.bl a) := by
  unfold plain; simp only [toPy]; rfl
theorem plain_non : plain .non := by
  unfold plain; simp only [toPy]; rfl

/-! ### the greatest common divisor -/
def gcdI (a b : Int) : Int := ((Int.gcd a b : Nat) : Int)
theorem gcd_step {a b : Int} (ha : 0 ≤ a) (hb : 0 < b) : gcdI b (a % b) = gcdI a b := by
  unfold gcdI
  rw [Int.gcd_eq_natAbs_gcd_natAbs, Int.gcd_eq_natAbs_gcd_natAbs, Int.natAbs_emod_of_nonneg ha, Nat.gcd_comm a.natAbs, Nat.gcd_rec b.natAbs a.natAbs]
  exact congrArg _ (Nat.gcd_comm _ _)
theorem gcd_zero' {a : Int} (ha : 0 ≤ a) : gcdI a 0 = a := by
  unfold gcdI
  rw [Int.gcd_zero, Int.natAbs_of_nonneg ha]
theorem gcd_abs {a b : Int} : gcdI (if a < 0 then -a else a) (if b < 0 then -b else b) = gcdI a b := by
  unfold gcdI
  split <;> split <;> simp
theorem gcd_nn {a b : Int} : 0 ≤ gcdI a b := by unfold gcdI; omega
theorem gcd_pos {a b : Int} (h : a ≠ 0 ∨ b ≠ 0) : 0 < gcdI a b := by
  unfold gcdI
  rcases h with h | h
  · exact_mod_cast Int.gcd_pos_of_ne_zero_left b h
  · exact_mod_cast Int.gcd_pos_of_ne_zero_right a h
theorem gcd_dl {a b : Int} : gcdI a b ∣ a := Int.gcd_dvd_left a b
theorem gcd_dr {a b : Int} : gcdI a b ∣ b := Int.gcd_dvd_right a b
theorem gcd_bt {n : Nat} {a b : Int} (h : Bt n b) (hb : b ≠ 0) : Bt n (gcdI a b) := by
  unfold Bt gcdI at *
  have := Int.gcd_le_natAbs_right a hb
  simp only [Int.natAbs_natCast]
  omega
theorem gcd_quot {a b : Int} (hb : b ≠ 0) : gcdI (a / gcdI a b) (b / gcdI a b) = 1 := by
  unfold gcdI
  rw [Int.gcd_ediv (Int.gcd_dvd_left a b) (Int.gcd_dvd_right a b)]
  have := Int.gcd_pos_of_ne_zero_right a hb
  rw [Int.natAbs_natCast, Nat.div_self this]
  rfl
/-- the Euclidean loop's turns -/
theorem gcd_loop {c : Env → (Bool → Env → Prop) → Prop} {body : Env → Po → Prop} {P : Po}
    (hc : ∀ a b Q, c [.val (.int a), .val (.int b)] Q ↔ Q (decide (0 < b)) [.val (.int a), .val (.int b)])
    (hb : ∀ a b P, 0 < b → P.nx [.val (.int b), .val (.int (a % b))] → body [.val (.int a), .val (.int b)] P)
    {a b : Int} (ha : 0 ≤ a) (hb0 : 0 ≤ b) (hq : P.nx [.val (.int (gcdI a b)), .val (.int 0)]) : ∃ n, whL c body n [.val (.int a), .val (.int b)] P := by
  refine ⟨b.toNat + 1, whL_of (fun n env => ∃ x y : Int, env = [.val (.int x), .val (.int y)] ∧ 0 ≤ x ∧ 0 ≤ y ∧ n = y.toNat ∧ gcdI x y = gcdI a b) (fun n env hi R hR => ?_) b.toNat _ ⟨a, b, rfl, ha, hb0, rfl, rfl⟩⟩
  obtain ⟨x, y, rfl, hx, hy, rfl, hg⟩ := hi
  rw [hc]
  refine ⟨fun h => ?_, fun h => ?_⟩
  · have hy' : 0 < y := of_decide_eq_true h
    refine hb x y _ hy' (hR (x % y).toNat _ ?_ ⟨y, x % y, rfl, hy, Int.emod_nonneg _ (by omega), rfl, by rw [gcd_step hx hy']; exact hg⟩)
    have := Int.emod_lt_of_pos x hy'
    have := Int.emod_nonneg x (show y ≠ 0 by omega)
    omega
  · have hy' : ¬ 0 < y := of_decide_eq_false h
    have : y = 0 := by omega
    subst this
    rw [gcd_zero' hx] at hg
    subst hg
    exact hq
end Pd

set_option Elab.async false
set_option linter.all false
set_option maxRecDepth 100000
/-! PyD, part 16: the law's own promise. -/
namespace Pd
open PySem PySem.Spec L2
def spL (n : Nat) : DSp := fun ss Q _ => ∃ ns : List Int, ss = [.val (.scr (ns.map .int))] ∧ ns.length ≤ n ∧ Q (.v (.bl true)) [.un]
def spLaw (K : PySem.W.Frag) (n : Nat) : Sp := fun vs H Q _ => ∃ (a : Addr) (ns : List Int), vs = [.ref a] ∧ SqL K H a (ns.map V.int) ∧ ns.length ≤ n ∧ ∀ H', Q (.bl true) H'
theorem law_imp {P : Program} {w : World} {K : PySem.W.Frag} {mg : Str → Option Value} {base : Heap} {k n : Nat} {f : Addr} {fd : FuncData} {ps : List Str} (F : FnOk P w K mg base (L2.CX P w) k f fd ps (spOf K mg 1 (spL n))) :
    FnOk P w K mg base (L2.CX P w) k f fd ps (spLaw K n) := F.imp fun vs H Q E h => by
  obtain ⟨a, ns, rfl, hs, hl, q⟩ := h
  refine ⟨fun _ _ => False, fun _ => False, [.val (.scr (ns.map .int))], fun r _ => r = .v (.bl true), fun _ _ => False, rfl, ⟨rfl, fun _ z => z.elim, fun i => ?_, fun i j b _ oi => ?_, fun _ _ z => z.elim, fun p hp => by cases hp⟩, fun i hi => ?_, ⟨ns, rfl, hl, rfl⟩, fun v H' Own' r os S oo l ro hr => ?_, fun _ _ _ _ _ _ _ _ _ _ z => z.elim⟩
  · cases i with
    | zero =>
      refine ⟨.ref a, rfl, ?_⟩
      simp only [Rep]
      refine ⟨a, ns.map V.int, rfl, ?_, Reps.of_ints ns⟩
      rcases hs with h | h
      · exact .inl ⟨id, h⟩
      · exact .inr (.inr h)
    | succ i => exact trivial
  · cases i with
    | zero => exact oi.elim
    | succ i => exact oi.elim
  · cases i with
    | zero => exact fun z => by cases z
    | succ i => omega
  · subst hr
    simp only [RetOk, Rep] at ro
    subst ro
    exact q H'
theorem lent_no {lent : List Nat} {ss : List Sl} (h : ∀ i, isOwn (getS ss i) → i ∈ lent) : ∀ i, isOwn (getS ss i) → i ∈ lent := h
end Pd

set_option Elab.async false
set_option linter.all false
set_option maxRecDepth 100000
namespace K02
open PySem PySem.Spec L2 Pd
/-! is_whole(value): slots 0=value; calls  -/
def is_whole.b0 : Sms := .cons (.ret (.ands (.e (.pr (.isi .int) (.e (.var 0) .nil)) (.e (.not_ (.pr (.isi .bool) (.e (.var 0) .nil))) .nil)))) .nil
/-! is_row(value, size): slots 0=value 1=size 2=number; calls is_whole -/
def is_row.b0t0 : Sms := .cons (.ret (.bl false)) .nil
def is_row.b1l0t0 : Sms := .cons (.ret (.bl false)) .nil
def is_row.b1l0 : Sms := .cons (.ife (.ors (.cons (.not_ (.e (.call 0 (.e (.var 2) .nil)))) (.cons (.cmp .lt (.e (.var 2) (.e (.int 0) .nil))) .nil))) is_row.b1l0t0 .nil) .nil
def is_row.b2 : Sms := .cons (.ret (.bl true)) .nil
def is_row.b1 : Sms := .cons (.for_ (.nm 2) (.seq (.var 0)) is_row.b1l0) is_row.b2
def is_row.b0 : Sms := .cons (.ife (.ors (.cons (.not_ (.e (.pr (.isi .tuple) (.e (.var 0) .nil)))) (.cons (.cmp .ne (.e (.pr .len (.e (.var 0) .nil)) (.e (.var 1) .nil))) .nil))) is_row.b0t0 .nil) is_row.b1
/-! zeros(size): slots 0=size; calls  -/
def zeros.b0 : Sms := .cons (.ret (.pr .mul (.e (.pr .tupD (.e (.int 0) .nil)) (.e (.var 0) .nil)))) .nil
/-! unit(size, place): slots 0=size 1=place; calls  -/
def unit.b0 : Sms := .cons (.ret (.pr .add (.e (.pr .add (.e (.pr .mul (.e (.pr .tupD (.e (.int 0) .nil)) (.e (.var 1) .nil))) (.e (.pr .tupD (.e (.int 1) .nil)) .nil))) (.e (.pr .mul (.e (.pr .tupD (.e (.int 0) .nil)) (.e (.pr .sub (.e (.pr .sub (.e (.var 0) (.e (.var 1) .nil))) (.e (.int 1) .nil))) .nil))) .nil)))) .nil
/-! plus_rows(one, other): slots 0=one 1=other 2=left 3=right; calls  -/
def plus_rows.b0 : Sms := .cons (.ret (.pr .tupOf (.e (.comp [2, 3] (.tp [2, 3]) (.zip (.var 0) (.var 1)) .nil (.pr .add (.e (.var 2) (.e (.var 3) .nil)))) .nil))) .nil
/-! less_rows(one, other): slots 0=one 1=other 2=left 3=right; calls  -/
def less_rows.b0 : Sms := .cons (.ret (.pr .tupOf (.e (.comp [2, 3] (.tp [2, 3]) (.zip (.var 0) (.var 1)) .nil (.pr .sub (.e (.var 2) (.e (.var 3) .nil)))) .nil))) .nil
/-! scaled(row, factor): slots 0=row 1=factor 2=number; calls  -/
def scaled.b0 : Sms := .cons (.ret (.pr .tupOf (.e (.comp [2] (.nm 2) (.seq (.var 0)) .nil (.pr .mul (.e (.var 2) (.e (.var 1) .nil)))) .nil))) .nil
/-! shared(one, other): slots 0=one 1=other 2=left 3=right; calls  -/
def shared.b0 : Sms := .cons (.ret (.pr .tupOf (.e (.comp [2, 3] (.tp [2, 3]) (.zip (.var 0) (.var 1)) .nil (.ife (.cmp .lt (.e (.var 2) (.e (.var 3) .nil))) (.var 2) (.var 3))) .nil))) .nil
/-! upper(one, other): slots 0=one 1=other 2=left 3=right; calls  -/
def upper.b0 : Sms := .cons (.ret (.pr .tupOf (.e (.comp [2, 3] (.tp [2, 3]) (.zip (.var 0) (.var 1)) .nil (.ife (.cmp .gt (.e (.var 2) (.e (.var 3) .nil))) (.var 2) (.var 3))) .nil))) .nil
/-! within(one, other): slots 0=one 1=other 2=left 3=right; calls  -/
def within.b0l0t0 : Sms := .cons (.ret (.bl false)) .nil
def within.b0l0 : Sms := .cons (.ife (.cmp .gt (.e (.var 2) (.e (.var 3) .nil))) within.b0l0t0 .nil) .nil
def within.b1 : Sms := .cons (.ret (.bl true)) .nil
def within.b0 : Sms := .cons (.for_ (.tp [2, 3]) (.zip (.var 0) (.var 1)) within.b0l0) within.b1
/-! meet(one, other): slots 0=one 1=other 2=left 3=right; calls  -/
def meet.b0l0t0 : Sms := .cons (.ret (.bl true)) .nil
def meet.b0l0 : Sms := .cons (.ife (.ands (.cons (.cmp .gt (.e (.var 2) (.e (.int 0) .nil))) (.cons (.cmp .gt (.e (.var 3) (.e (.int 0) .nil))) .nil))) meet.b0l0t0 .nil) .nil
def meet.b1 : Sms := .cons (.ret (.bl false)) .nil
def meet.b0 : Sms := .cons (.for_ (.tp [2, 3]) (.zip (.var 0) (.var 1)) meet.b0l0) meet.b1
/-! total(row): slots 0=row; calls  -/
def total.b0 : Sms := .cons (.ret (.pr .sum (.e (.var 0) .nil))) .nil
/-! dot(one, other): slots 0=one 1=other 2=left 3=right; calls  -/
def dot.b0 : Sms := .cons (.ret (.pr .sum (.e (.comp [2, 3] (.tp [2, 3]) (.zip (.var 0) (.var 1)) .nil (.pr .mul (.e (.var 2) (.e (.var 3) .nil)))) .nil))) .nil
/-! support(row): slots 0=row 1=place 2=number; calls  -/
def support.b0 : Sms := .cons (.ret (.pr .tupOf (.e (.comp [1, 2] (.tp [1, 2]) (.enum (.var 0)) (.cons (.cmp .ne (.e (.var 2) (.e (.int 0) .nil))) .nil) (.var 1)) .nil))) .nil
/-! _law_begin(script): slots 0=script 1=cell; calls ; new list -/
def law_begin.b0 : Sms := .cons (.retO (.pr .lstD (.e (.comp [1] (.nm 1) (.seq (.var 0)) .nil (.pr .int (.e (.var 1) .nil))) (.e (.int 0) (.e (.int 0) (.e (.int 7) (.e (.int 3) .nil))))))) .nil
/-! _law_draw(d, many): slots 0=d 1=many 2=found 3=size 4=cell; calls  -/
def law_draw.b0t2 : Sms := .cons (.ret (.pr .mod (.e (.pr .int (.e (.var 2) .nil)) (.e (.var 1) .nil)))) .nil
def law_draw.b0t1 : Sms := .cons (.setix 0 (.int 2) (.pr .fdiv (.e (.var 2) (.e (.var 1) .nil)))) law_draw.b0t2
def law_draw.b0t0 : Sms := .cons (.asg (.nm 2) (.pr .ix (.pk 0 (.e (.int 2) .nil)))) law_draw.b0t1
def law_draw.b2t1 : Sms := .cons (.asg (.nm 3) (.pr .add (.e (.pr .mul (.e (.int 2) (.e (.pr .abs (.e (.var 4) .nil)) .nil))) (.e (.pr .int (.e (.pr .lt (.e (.var 4) (.e (.int 0) .nil))) .nil)) .nil)))) .nil
def law_draw.b2t0 : Sms := .cons (.asg (.nm 4) (.pr .ix (.e (.pr .ix (.pk 0 (.e (.int 0) .nil))) (.e (.pr .ix (.pk 0 (.e (.int 1) .nil))) .nil)))) law_draw.b2t1
def law_draw.b4t2 : Sms := .cons (.ret (.pr .mod (.e (.pr .int (.e (.var 2) .nil)) (.e (.var 1) .nil)))) .nil
def law_draw.b4t1 : Sms := .cons (.setix 0 (.int 2) (.pr .fdiv (.e (.var 2) (.e (.var 1) .nil)))) law_draw.b4t2
def law_draw.b4t0 : Sms := .cons (.asg (.nm 2) (.pr .mod (.e (.pr .int (.e (.pr .fdiv (.e (.var 3) (.e (.int 2) .nil))) .nil)) (.e (.pr .shl (.e (.int 1) (.e (.int 6000) .nil))) .nil)))) law_draw.b4t1
def law_draw.b6 : Sms := .cons (.ret (.pr .mod (.e (.pr .int (.e (.pr .fdiv (.e (.pr .ix (.pk 0 (.e (.int 3) .nil))) (.e (.int 16) .nil))) .nil)) (.e (.var 1) .nil)))) .nil
def law_draw.b5 : Sms := .cons (.setix 0 (.int 3) (.pr .mod (.e (.pr .int (.e (.pr .add (.e (.pr .add (.e (.pr .add (.e (.pr .mul (.e (.pr .ix (.pk 0 (.e (.int 3) .nil))) (.e (.int 48271) .nil))) (.e (.pr .mul (.e (.pr .mod (.e (.pr .int (.e (.var 3) .nil)) (.e (.int 2147483629) .nil))) (.e (.int 16807) .nil))) .nil))) (.e (.pr .mul (.e (.pr .ix (.pk 0 (.e (.int 1) .nil))) (.e (.int 69621) .nil))) .nil))) (.e (.int 11) .nil))) .nil)) (.e (.int 2147483647) .nil)))) law_draw.b6
def law_draw.b4 : Sms := .cons (.ife (.cmp .ge (.e (.var 3) (.e (.pr .mul (.e (.int 2) (.e (.pr .pow (.e (.int 10) (.e (.int 18) .nil))) .nil))) .nil))) law_draw.b4t0 .nil) law_draw.b5
def law_draw.b3 : Sms := .cons (.augix 0 (.int 1) .add (.int 1)) law_draw.b4
def law_draw.b2 : Sms := .cons (.ife (.cmp .lt (.e (.pr .ix (.pk 0 (.e (.int 1) .nil))) (.e (.pr .len (.e (.pr .ix (.pk 0 (.e (.int 0) .nil))) .nil)) .nil))) law_draw.b2t0 .nil) law_draw.b3
def law_draw.b1 : Sms := .cons (.asg (.nm 3) (.int 0)) law_draw.b2
def law_draw.b0 : Sms := .cons (.ife (.cmp .gt (.e (.pr .ix (.pk 0 (.e (.int 2) .nil))) (.e (.int 0) .nil))) law_draw.b0t0 .nil) law_draw.b1
/-! _law_rare(d, many): slots 0=d 1=many; calls _law_draw -/
def law_rare.b0 : Sms := .cons (.ret (.pr .eq (.e (.call 0 (.pk 0 (.e (.var 1) .nil))) (.e (.pr .fdiv (.e (.var 1) (.e (.int 2) .nil))) .nil)))) .nil
/-! _law_is_int(thing): slots 0=thing; calls  -/
def law_is_int.b0 : Sms := .cons (.ret (.ands (.e (.pr (.isi .int) (.e (.var 0) .nil)) (.e (.not_ (.pr (.isi .bool) (.e (.var 0) .nil))) .nil)))) .nil
/-! _law_is_ints(thing, size, least): slots 0=thing 1=size 2=least 3=part; calls _law_is_int -/
def law_is_ints.b0t0 : Sms := .cons (.ret (.bl false)) .nil
def law_is_ints.b1 : Sms := .cons (.ret (.pr .all (.e (.comp [3] (.nm 3) (.seq (.var 0)) .nil (.ands (.e (.call 0 (.e (.var 3) .nil)) (.e (.pr .ge (.e (.var 3) (.e (.var 2) .nil))) .nil)))) .nil))) .nil
def law_is_ints.b0 : Sms := .cons (.ife (.ors (.cons (.not_ (.e (.pr (.isi .tuple) (.e (.var 0) .nil)))) (.cons (.cmp .ne (.e (.pr .len (.e (.var 0) .nil)) (.e (.var 1) .nil))) .nil))) law_is_ints.b0t0 .nil) law_is_ints.b1
/-! _law_number(d): slots 0=d 1=way 2=found 3=k; calls _law_draw -/
def law_number.b1t0 : Sms := .cons (.ret (.call 0 (.pk 0 (.e (.int 13) .nil)))) .nil
def law_number.b2t0 : Sms := .cons (.ret (.call 0 (.pk 0 (.e (.int 1000) .nil)))) .nil
def law_number.b3t0 : Sms := .cons (.ret (.pr .add (.e (.pr .mul (.e (.call 0 (.pk 0 (.e (.int 1000000) .nil))) (.e (.int 1000003) .nil))) (.e (.call 0 (.pk 0 (.e (.int 1000000) .nil))) .nil)))) .nil
def law_number.b5l0 : Sms := .cons (.asg (.nm 2) (.pr .add (.e (.pr .mul (.e (.var 2) (.e (.int 1000000) .nil))) (.e (.call 0 (.pk 0 (.e (.int 1000000) .nil))) .nil)))) .nil
def law_number.b6 : Sms := .cons (.ret (.var 2)) .nil
def law_number.b5 : Sms := .cons (.for_ (.nm 3) (.rng1 (.pr .add (.e (.int 1) (.e (.call 0 (.pk 0 (.e (.int 6) .nil))) .nil)))) law_number.b5l0) law_number.b6
def law_number.b4 : Sms := .cons (.asg (.nm 2) (.int 0)) law_number.b5
def law_number.b3 : Sms := .cons (.ife (.cmp .eq (.e (.var 1) (.e (.int 2) .nil))) law_number.b3t0 .nil) law_number.b4
def law_number.b2 : Sms := .cons (.ife (.cmp .eq (.e (.var 1) (.e (.int 1) .nil))) law_number.b2t0 .nil) law_number.b3
def law_number.b1 : Sms := .cons (.ife (.cmp .eq (.e (.var 1) (.e (.int 0) .nil))) law_number.b1t0 .nil) law_number.b2
def law_number.b0 : Sms := .cons (.asg (.nm 1) (.call 0 (.pk 0 (.e (.int 4) .nil)))) law_number.b1
/-! _law_part(d): slots 0=d 1=way 2=found; calls _law_draw _law_number -/
def law_part.b1t0 : Sms := .cons (.ret (.call 0 (.pk 0 (.e (.int 4) .nil)))) .nil
def law_part.b2t0 : Sms := .cons (.ret (.pr .sub (.e (.call 0 (.pk 0 (.e (.int 8) .nil))) (.e (.int 4) .nil)))) .nil
def law_part.b3t0 : Sms := .cons (.ret (.int 0)) .nil
def law_part.b5t0 : Sms := .cons (.ret (.var 2)) .nil
def law_part.b6 : Sms := .cons (.ret (.pr .sub (.e (.int 0) (.e (.var 2) .nil)))) .nil
def law_part.b5 : Sms := .cons (.ife (.cmp .eq (.e (.var 1) (.e (.int 4) .nil))) law_part.b5t0 .nil) law_part.b6
def law_part.b4 : Sms := .cons (.asg (.nm 2) (.call 1 (.pk 0 .nil))) law_part.b5
def law_part.b3 : Sms := .cons (.ife (.cmp .eq (.e (.var 1) (.e (.int 3) .nil))) law_part.b3t0 .nil) law_part.b4
def law_part.b2 : Sms := .cons (.ife (.cmp .eq (.e (.var 1) (.e (.int 2) .nil))) law_part.b2t0 .nil) law_part.b3
def law_part.b1 : Sms := .cons (.ife (.cmp .lt (.e (.var 1) (.e (.int 2) .nil))) law_part.b1t0 .nil) law_part.b2
def law_part.b0 : Sms := .cons (.asg (.nm 1) (.call 0 (.pk 0 (.e (.int 6) .nil)))) law_part.b1
/-! _law_rows(d, size): slots 0=d 1=size 2=one 3=other 4=k 5=way; calls _law_part _law_draw -/
def law_rows.b2l2t0 : Sms := .cons (.app 3 (.pr .ix (.pk 2 (.e (.var 4) .nil)))) .nil
def law_rows.b2l2e0t0 : Sms := .cons (.app 3 (.int 0)) .nil
def law_rows.b2l2e0e0 : Sms := .cons (.app 3 (.call 0 (.pk 0 .nil))) .nil
def law_rows.b2l2e0 : Sms := .cons (.ife (.cmp .eq (.e (.var 5) (.e (.int 1) .nil))) law_rows.b2l2e0t0 law_rows.b2l2e0e0) .nil
def law_rows.b2l2 : Sms := .cons (.ife (.cmp .eq (.e (.var 5) (.e (.int 0) .nil))) law_rows.b2l2t0 law_rows.b2l2e0) .nil
def law_rows.b2l1 : Sms := .cons (.asg (.nm 5) (.call 1 (.pk 0 (.e (.int 4) .nil)))) law_rows.b2l2
def law_rows.b2l0 : Sms := .cons (.app 2 (.call 0 (.pk 0 .nil))) law_rows.b2l1
def law_rows.b3 : Sms := .cons (.ret (.pr .tupD (.e (.pr .tupOf (.pk 2 .nil)) (.e (.pr .tupOf (.pk 3 .nil)) .nil)))) .nil
def law_rows.b2 : Sms := .cons (.for_ (.nm 4) (.rng1 (.var 1)) law_rows.b2l0) law_rows.b3
def law_rows.b1 : Sms := .cons (.asgO 3 (.pr .lstD .nil)) law_rows.b2
def law_rows.b0 : Sms := .cons (.asgO 2 (.pr .lstD .nil)) law_rows.b1
/-! _law_same_row(told, due): slots 0=told 1=due 2=k; calls _law_is_int -/
def law_same_row.b0t0 : Sms := .cons (.ret (.bl false)) .nil
def law_same_row.b1 : Sms := .cons (.ret (.pr .all (.e (.comp [2] (.nm 2) (.rng1 (.pr .len (.e (.var 1) .nil))) .nil (.ands (.e (.call 0 (.e (.pr .ix (.e (.var 0) (.e (.var 2) .nil))) .nil)) (.e (.pr .eq (.e (.pr .ix (.e (.var 0) (.e (.var 2) .nil))) (.e (.pr .ix (.e (.var 1) (.e (.var 2) .nil))) .nil))) .nil)))) .nil))) .nil
def law_same_row.b0 : Sms := .cons (.ife (.ors (.cons (.not_ (.e (.pr (.isi .tuple) (.e (.var 0) .nil)))) (.cons (.cmp .ne (.e (.pr .len (.e (.var 0) .nil)) (.e (.pr .len (.e (.var 1) .nil)) .nil))) .nil))) law_same_row.b0t0 .nil) law_same_row.b1
/-! _law_pair_right(one, other): slots 0=one 1=other 2=places 3=k 4=told; calls _law_same_row plus_rows less_rows shared upper within meet dot _law_is_int -/
def law_pair_right.b1t0 : Sms := .cons (.ret (.bl false)) .nil
def law_pair_right.b2t0 : Sms := .cons (.ret (.bl false)) .nil
def law_pair_right.b3t0 : Sms := .cons (.ret (.bl false)) .nil
def law_pair_right.b4t0 : Sms := .cons (.ret (.bl false)) .nil
def law_pair_right.b6t0 : Sms := .cons (.ret (.bl false)) .nil
def law_pair_right.b8t0 : Sms := .cons (.ret (.bl false)) .nil
def law_pair_right.b10 : Sms := .cons (.ret (.ands (.e (.call 8 (.e (.var 4) .nil)) (.e (.pr .eq (.e (.var 4) (.e (.pr .sum (.e (.comp [3] (.nm 3) (.seq (.var 2)) .nil (.pr .mul (.e (.pr .ix (.e (.var 0) (.e (.var 3) .nil))) (.e (.pr .ix (.e (.var 1) (.e (.var 3) .nil))) .nil)))) .nil)) .nil))) .nil)))) .nil
def law_pair_right.b9 : Sms := .cons (.asg (.nm 4) (.call 7 (.e (.var 0) (.e (.var 1) .nil)))) law_pair_right.b10
def law_pair_right.b8 : Sms := .cons (.ife (.ors (.cons (.not_ (.e (.pr (.isi .bool) (.e (.var 4) .nil)))) (.cons (.cmp .ne (.e (.var 4) (.e (.pr .any (.e (.comp [3] (.nm 3) (.seq (.var 2)) .nil (.ands (.e (.pr .gt (.e (.pr .ix (.e (.var 0) (.e (.var 3) .nil))) (.e (.int 0) .nil))) (.e (.pr .gt (.e (.pr .ix (.e (.var 1) (.e (.var 3) .nil))) (.e (.int 0) .nil))) .nil)))) .nil)) .nil))) .nil))) law_pair_right.b8t0 .nil) law_pair_right.b9
def law_pair_right.b7 : Sms := .cons (.asg (.nm 4) (.call 6 (.e (.var 0) (.e (.var 1) .nil)))) law_pair_right.b8
def law_pair_right.b6 : Sms := .cons (.ife (.ors (.cons (.not_ (.e (.pr (.isi .bool) (.e (.var 4) .nil)))) (.cons (.cmp .ne (.e (.var 4) (.e (.pr .all (.e (.comp [3] (.nm 3) (.seq (.var 2)) .nil (.pr .le (.e (.pr .ix (.e (.var 0) (.e (.var 3) .nil))) (.e (.pr .ix (.e (.var 1) (.e (.var 3) .nil))) .nil)))) .nil)) .nil))) .nil))) law_pair_right.b6t0 .nil) law_pair_right.b7
def law_pair_right.b5 : Sms := .cons (.asg (.nm 4) (.call 5 (.e (.var 0) (.e (.var 1) .nil)))) law_pair_right.b6
def law_pair_right.b4 : Sms := .cons (.ife (.not_ (.e (.call 0 (.e (.call 4 (.e (.var 0) (.e (.var 1) .nil))) (.e (.comp [3] (.nm 3) (.seq (.var 2)) .nil (.pr .max2 (.e (.pr .ix (.e (.var 0) (.e (.var 3) .nil))) (.e (.pr .ix (.e (.var 1) (.e (.var 3) .nil))) .nil)))) .nil))))) law_pair_right.b4t0 .nil) law_pair_right.b5
def law_pair_right.b3 : Sms := .cons (.ife (.not_ (.e (.call 0 (.e (.call 3 (.e (.var 0) (.e (.var 1) .nil))) (.e (.comp [3] (.nm 3) (.seq (.var 2)) .nil (.pr .min2 (.e (.pr .ix (.e (.var 0) (.e (.var 3) .nil))) (.e (.pr .ix (.e (.var 1) (.e (.var 3) .nil))) .nil)))) .nil))))) law_pair_right.b3t0 .nil) law_pair_right.b4
def law_pair_right.b2 : Sms := .cons (.ife (.not_ (.e (.call 0 (.e (.call 2 (.e (.var 0) (.e (.var 1) .nil))) (.e (.comp [3] (.nm 3) (.seq (.var 2)) .nil (.pr .sub (.e (.pr .ix (.e (.var 0) (.e (.var 3) .nil))) (.e (.pr .ix (.e (.var 1) (.e (.var 3) .nil))) .nil)))) .nil))))) law_pair_right.b2t0 .nil) law_pair_right.b3
def law_pair_right.b1 : Sms := .cons (.ife (.not_ (.e (.call 0 (.e (.call 1 (.e (.var 0) (.e (.var 1) .nil))) (.e (.comp [3] (.nm 3) (.seq (.var 2)) .nil (.pr .add (.e (.pr .ix (.e (.var 0) (.e (.var 3) .nil))) (.e (.pr .ix (.e (.var 1) (.e (.var 3) .nil))) .nil)))) .nil))))) law_pair_right.b1t0 .nil) law_pair_right.b2
def law_pair_right.b0 : Sms := .cons (.asg (.nm 2) (.rg1 false (.pr .len (.e (.var 0) .nil)))) law_pair_right.b1
/-! _law_alone_right(row, factor): slots 0=row 1=factor 2=places 3=told 4=k; calls total _law_is_int _law_same_row scaled support -/
def law_alone_right.b2t0 : Sms := .cons (.ret (.bl false)) .nil
def law_alone_right.b3t0 : Sms := .cons (.ret (.bl false)) .nil
def law_alone_right.b4 : Sms := .cons (.ret (.call 2 (.e (.call 4 (.e (.var 0) .nil)) (.e (.comp [4] (.nm 4) (.seq (.var 2)) (.cons (.cmp .ne (.e (.pr .ix (.e (.var 0) (.e (.var 4) .nil))) (.e (.int 0) .nil))) .nil) (.var 4)) .nil)))) .nil
def law_alone_right.b3 : Sms := .cons (.ife (.not_ (.e (.call 2 (.e (.call 3 (.e (.var 0) (.e (.var 1) .nil))) (.e (.comp [4] (.nm 4) (.seq (.var 2)) .nil (.pr .mul (.e (.pr .ix (.e (.var 0) (.e (.var 4) .nil))) (.e (.var 1) .nil)))) .nil))))) law_alone_right.b3t0 .nil) law_alone_right.b4
def law_alone_right.b2 : Sms := .cons (.ife (.ors (.cons (.not_ (.e (.call 1 (.e (.var 3) .nil)))) (.cons (.cmp .ne (.e (.var 3) (.e (.pr .sum (.e (.comp [4] (.nm 4) (.seq (.var 2)) .nil (.pr .ix (.e (.var 0) (.e (.var 4) .nil)))) .nil)) .nil))) .nil))) law_alone_right.b2t0 .nil) law_alone_right.b3
def law_alone_right.b1 : Sms := .cons (.asg (.nm 3) (.call 0 (.e (.var 0) .nil))) law_alone_right.b2
def law_alone_right.b0 : Sms := .cons (.asg (.nm 2) (.rg1 false (.pr .len (.e (.var 0) .nil)))) law_alone_right.b1
/-! _law_odd(d, row): slots 0=d 1=row 2=size 3=found 4=place 5=part; calls _law_draw -/
def law_odd.b2t1l0 : Sms := .cons (.app 3 (.pr .add (.e (.pr .add (.e (.pr (.slc false true) (.e (.var 1) (.e (.var 4) .nil))) (.e (.pr .tupD (.e (.var 5) .nil)) .nil))) (.e (.pr (.slc true false) (.e (.var 1) (.e (.pr .add (.e (.var 4) (.e (.int 1) .nil))) .nil))) .nil)))) .nil
def law_odd.b2t1 : Sms := .cons (.for_ (.nm 5) (.seq (.pr .lstD (.e (.int 0) (.e (.int 1) (.e (.pr .sub (.e (.int 0) (.e (.int 1) .nil))) (.e (.pr .pow (.e (.int 10) (.e (.int 50) .nil))) (.e (.pr .sub (.e (.int 0) (.e (.pr .pow (.e (.int 10) (.e (.int 50) .nil))) .nil))) (.e (.bl true) (.e (.bl false) (.e .non (.e (.str "1") (.e (.pr .tupD (.e (.int 1) .nil)) .nil)))))))))))) law_odd.b2t1l0) .nil
def law_odd.b2t0 : Sms := .cons (.asg (.nm 4) (.call 0 (.pk 0 (.e (.var 2) .nil)))) law_odd.b2t1
def law_odd.b3 : Sms := .cons (.ret (.var 3)) .nil
def law_odd.b2 : Sms := .cons (.ife (.cmp .gt (.e (.var 2) (.e (.int 0) .nil))) law_odd.b2t0 .nil) law_odd.b3
def law_odd.b1 : Sms := .cons (.asgO 3 (.pr .lstD (.e (.var 1) (.e (.pr .lstOf (.e (.var 1) .nil)) (.e (.pr .add (.e (.var 1) (.e (.pr .tupD (.e (.int 0) .nil)) .nil))) (.e (.pr .add (.e (.var 1) (.e (.pr .tupD (.e (.pr .sub (.e (.int 0) (.e (.int 1) .nil))) .nil)) .nil))) (.e (.pr (.slc false true) (.e (.var 1) (.e (.pr .max2 (.e (.int 0) (.e (.pr .sub (.e (.var 2) (.e (.int 1) .nil))) .nil))) .nil))) (.e (.pr .tupD .nil) (.e (.pr .tupD (.e (.int 0) .nil)) (.e .non (.e (.int 0) (.e (.var 2) (.e (.str "0") (.e (.pr .tupD (.e .non .nil)) .nil)))))))))))))) law_odd.b2
def law_odd.b0 : Sms := .cons (.asg (.nm 2) (.pr .len (.e (.var 1) .nil))) law_odd.b1
/-! _law_changed(d, row): slots 0=d 1=row 2=place; calls _law_draw -/
def law_changed.b0t0 : Sms := .cons (.ret (.var 1)) .nil
def law_changed.b2 : Sms := .cons (.ret (.pr .add (.e (.pr .add (.e (.pr (.slc false true) (.e (.var 1) (.e (.var 2) .nil))) (.e (.pr .tupD (.e (.pr .add (.e (.pr .ix (.e (.var 1) (.e (.var 2) .nil))) (.e (.int 1) .nil))) .nil)) .nil))) (.e (.pr (.slc true false) (.e (.var 1) (.e (.pr .add (.e (.var 2) (.e (.int 1) .nil))) .nil))) .nil)))) .nil
def law_changed.b1 : Sms := .cons (.asg (.nm 2) (.call 0 (.pk 0 (.e (.pr .len (.e (.var 1) .nil)) .nil)))) law_changed.b2
def law_changed.b0 : Sms := .cons (.ife (.cmp .eq (.e (.pr .len (.e (.var 1) .nil)) (.e (.int 0) .nil))) law_changed.b0t0 .nil) law_changed.b1
/-! law(script): slots 0=script 1=d 2=size 3=one 4=other 5=places 6=most 7=k 8=least 9=apart 10=changed 11=nothing 12=pairs 13=pair 14=row 15=factor 16=place 17=bare 18=part 19=value 20=many 21=told; calls _law_begin _law_draw _law_rare _law_rows _law_changed _law_pair_right _law_part _law_alone_right _law_same_row zeros unit _law_odd is_row _law_is_ints -/
def law.b11l0t0 : Sms := .cons (.ret (.bl false)) .nil
def law.b11l0 : Sms := .cons (.ife (.not_ (.e (.call 5 (.e (.pr .ix (.e (.var 13) (.e (.int 0) .nil))) (.e (.pr .ix (.e (.var 13) (.e (.int 1) .nil))) .nil))))) law.b11l0t0 .nil) .nil
def law.b12l0l0t0 : Sms := .cons (.ret (.bl false)) .nil
def law.b12l0l0 : Sms := .cons (.ife (.not_ (.e (.call 7 (.e (.var 14) (.e (.var 15) .nil))))) law.b12l0l0t0 .nil) .nil
def law.b12l0 : Sms := .cons (.for_ (.nm 15) (.seq (.pr .lstD (.e (.int 0) (.e (.int 1) (.e (.pr .sub (.e (.int 0) (.e (.int 1) .nil))) (.e (.pr .add (.e (.int 2) (.e (.call 1 (.pk 1 (.e (.int 9) .nil))) .nil))) (.e (.call 6 (.pk 1 .nil)) .nil))))))) law.b12l0l0) .nil
def law.b13t0 : Sms := .cons (.ret (.bl false)) .nil
def law.b14l0t0 : Sms := .cons (.ret (.bl false)) .nil
def law.b14l0 : Sms := .cons (.ife (.not_ (.e (.call 8 (.e (.call 10 (.e (.var 2) (.e (.var 16) .nil))) (.e (.comp [7] (.nm 7) (.seq (.var 5)) .nil (.pr .int (.e (.pr .eq (.e (.var 7) (.e (.var 16) .nil))) .nil))) .nil))))) law.b14l0t0 .nil) .nil
def law.b16l0l0l1t0 : Sms := .cons (.ret (.bl false)) .nil
def law.b16l0l0l1 : Sms := .cons (.ife (.ors (.cons (.not_ (.e (.pr (.isi .bool) (.e (.var 21) .nil)))) (.cons (.cmp .ne (.e (.var 21) (.e (.call 13 (.e (.var 19) (.e (.var 20) (.e (.int 0) .nil)))) .nil))) .nil))) law.b16l0l0l1t0 .nil) .nil
def law.b16l0l0l0 : Sms := .cons (.asg (.nm 21) (.call 12 (.e (.var 19) (.e (.var 20) .nil)))) law.b16l0l0l1
def law.b16l0l0 : Sms := .cons (.for_ (.nm 20) (.seq (.pr .lstD (.e (.var 2) (.e (.pr .add (.e (.var 2) (.e (.int 1) .nil))) (.e (.pr .max2 (.e (.int 0) (.e (.pr .sub (.e (.var 2) (.e (.int 1) .nil))) .nil))) .nil))))) law.b16l0l0l0) .nil
def law.b16l0 : Sms := .cons (.for_ (.nm 19) (.seq (.call 11 (.pk 1 (.e (.var 14) .nil)))) law.b16l0l0) .nil
def law.b17 : Sms := .cons (.ret (.bl true)) .nil
def law.b16 : Sms := .cons (.for_ (.nm 14) (.seq (.pr .lstD (.e (.var 3) (.e (.var 17) .nil)))) law.b16l0) law.b17
def law.b15 : Sms := .cons (.asg (.nm 17) (.pr .tupOf (.e (.comp [18] (.nm 18) (.seq (.var 4)) .nil (.pr .abs (.e (.var 18) .nil))) .nil))) law.b16
def law.b14 : Sms := .cons (.for_ (.nm 16) (.seq (.var 5)) law.b14l0) law.b15
def law.b13 : Sms := .cons (.ife (.not_ (.e (.call 8 (.e (.call 9 (.e (.var 2) .nil)) (.e (.var 11) .nil))))) law.b13t0 .nil) law.b14
def law.b12 : Sms := .cons (.for_ (.nm 14) (.seq (.pr .lstD (.e (.var 3) (.e (.var 4) (.e (.var 8) (.e (.var 9) (.e (.var 11) .nil))))))) law.b12l0) law.b13
def law.b11 : Sms := .cons (.for_ (.nm 13) (.seq (.var 12)) law.b11l0) law.b12
def law.b10 : Sms := .cons (.asg (.nm 12) (.pr .add (.e (.var 12) (.e (.pr .lstD (.e (.pr .tupD (.e (.var 3) (.e (.var 10) .nil))) (.e (.pr .tupD (.e (.var 10) (.e (.var 3) .nil))) (.e (.pr .tupD (.e (.var 9) (.e (.call 4 (.pk 1 (.e (.var 9) .nil))) .nil))) (.e (.pr .tupD (.e (.var 11) (.e (.var 3) .nil))) .nil))))) .nil)))) law.b11
def law.b9 : Sms := .cons (.asg (.nm 12) (.pr .lstD (.e (.pr .tupD (.e (.var 3) (.e (.var 4) .nil))) (.e (.pr .tupD (.e (.var 4) (.e (.var 3) .nil))) (.e (.pr .tupD (.e (.var 3) (.e (.var 3) .nil))) (.e (.pr .tupD (.e (.var 3) (.e (.var 6) .nil))) (.e (.pr .tupD (.e (.var 8) (.e (.var 4) .nil))) (.e (.pr .tupD (.e (.var 3) (.e (.var 9) .nil))) (.e (.pr .tupD (.e (.var 9) (.e (.var 3) .nil))) .nil))))))))) law.b10
def law.b8 : Sms := .cons (.asg (.nm 11) (.pr .tupOf (.e (.comp [7] (.nm 7) (.seq (.var 5)) .nil (.int 0)) .nil))) law.b9
def law.b7 : Sms := .cons (.asg (.nm 10) (.call 4 (.pk 1 (.e (.var 3) .nil)))) law.b8
def law.b6 : Sms := .cons (.asg (.nm 9) (.pr .tupOf (.e (.comp [7] (.nm 7) (.seq (.var 5)) .nil (.pr .mul (.e (.pr .add (.e (.int 1) (.e (.var 7) .nil))) (.e (.pr .int (.e (.pr .le (.e (.pr .ix (.e (.var 3) (.e (.var 7) .nil))) (.e (.int 0) .nil))) .nil)) .nil)))) .nil))) law.b7
def law.b5 : Sms := .cons (.asg (.nm 8) (.pr .tupOf (.e (.comp [7] (.nm 7) (.seq (.var 5)) .nil (.pr .min2 (.e (.pr .ix (.e (.var 3) (.e (.var 7) .nil))) (.e (.pr .ix (.e (.var 4) (.e (.var 7) .nil))) .nil)))) .nil))) law.b6
def law.b4 : Sms := .cons (.asg (.nm 6) (.pr .tupOf (.e (.comp [7] (.nm 7) (.seq (.var 5)) .nil (.pr .max2 (.e (.pr .ix (.e (.var 3) (.e (.var 7) .nil))) (.e (.pr .ix (.e (.var 4) (.e (.var 7) .nil))) .nil)))) .nil))) law.b5
def law.b3 : Sms := .cons (.asg (.nm 5) (.rg1 false (.var 2))) law.b4
def law.b2 : Sms := .cons (.asg (.tp [3, 4]) (.call 3 (.pk 1 (.e (.var 2) .nil)))) law.b3
def law.b1 : Sms := .cons (.asg (.nm 2) (.pr .add (.e (.call 1 (.pk 1 (.e (.int 8) .nil))) (.e (.pr .mul (.e (.int 20) (.e (.pr .int (.e (.call 2 (.pk 1 (.e (.int 12) .nil))) .nil)) .nil))) .nil)))) law.b2
def law.b0 : Sms := .cons (.asgC 1 0 (.e (.var 0) .nil)) law.b1

/-! ### whole numbers -/
def isInt : D → Bool
  | .int _ => true
  | _ => false
def sp_whole : DSp := fun ss Q _ => ∃ d : D, ss = [.val d] ∧ isIns d = false ∧ Q (.v (.bl (isInt d))) [.un]
theorem w_whole : ∀ ss Q E, ss.length = 1 → sp_whole ss Q E → wpSs [] is_whole.b0 (ent ss 0) (bodyP ss Q E) := by
  rintro ss Q E - ⟨d, rfl, hd, hq⟩
  cases d <;> first
    | (cases hd; done)
    | ((try subst hk_is_whole_b0); unfold is_whole.b0; simp only [wpSs, wpS, wpE, wpA, wpC, wpT, wpTss, wpI, wpAnds, wpOrs, bindT, getS, setS, setsS, outS, slD, Pr.w, Pr.aw, pAdd, pInt, pMul, pCmp, pEq, pIsN, pLt, pLen, pAbs, pNeg, pInt1, pBool, pIsi, pIx, pSlc, pTupD, pLstD, pTupOf, pLstOf, pSum, pBs, pTwo, isNon, isIns, isTp, truth, items, ent, List.replicate, List.cons_append, List.nil_append, Rv.d, bodyP, at0, at1, at2, at3, at4, atm1, ixn1, ixn2, ixn3, set51, set52, set53, get51, D.int.injEq, D.bl.injEq, D.tup.injEq, D.lst.injEq, D.str.injEq, Sl.own.injEq, Sl.val.injEq, Rv.v.injEq, Rv.fr.injEq, Option.some.injEq, List.cons.injEq, exists_eq_left, exists_eq_left', exists_eq, exists_eq', exists_const, exists_and_left, true_and, and_true, true_implies, forall_const, Bool.false_eq_true, Bool.true_eq_false, false_implies, implies_true, decide_eq_true_eq, decide_eq_false_iff_not, Nat.reduceSub, Nat.reduceAdd, id_eq, List.length_cons, List.length_nil, List.length_append, reduceCtorEq, and_self, ite_true, ite_false, if_true, if_false, Bool.not_true, Bool.not_false, Bool.not_eq_true', Bool.not_eq_false', outP1, outP2, outP3, noOwn, wipeS, restS, false_and, and_false, eq_self_iff_true, not_true_eq_false, not_false_eq_true, decide_true, decide_false]; exact hq)
theorem w_whole' : ∀ ss Q E, ss.length = 1 → sp_whole ss Q E → wpSs [] law_is_int.b0 (ent ss 0) (bodyP ss Q E) := by
  rintro ss Q E - ⟨d, rfl, hd, hq⟩
  cases d <;> first
    | (cases hd; done)
    | ((try subst hk_law_is_int_b0); unfold law_is_int.b0; simp only [wpSs, wpS, wpE, wpA, wpC, wpT, wpTss, wpI, wpAnds, wpOrs, bindT, getS, setS, setsS, outS, slD, Pr.w, Pr.aw, pAdd, pInt, pMul, pCmp, pEq, pIsN, pLt, pLen, pAbs, pNeg, pInt1, pBool, pIsi, pIx, pSlc, pTupD, pLstD, pTupOf, pLstOf, pSum, pBs, pTwo, isNon, isIns, isTp, truth, items, ent, List.replicate, List.cons_append, List.nil_append, Rv.d, bodyP, at0, at1, at2, at3, at4, atm1, ixn1, ixn2, ixn3, set51, set52, set53, get51, D.int.injEq, D.bl.injEq, D.tup.injEq, D.lst.injEq, D.str.injEq, Sl.own.injEq, Sl.val.injEq, Rv.v.injEq, Rv.fr.injEq, Option.some.injEq, List.cons.injEq, exists_eq_left, exists_eq_left', exists_eq, exists_eq', exists_const, exists_and_left, true_and, and_true, true_implies, forall_const, Bool.false_eq_true, Bool.true_eq_false, false_implies, implies_true, decide_eq_true_eq, decide_eq_false_iff_not, Nat.reduceSub, Nat.reduceAdd, id_eq, List.length_cons, List.length_nil, List.length_append, reduceCtorEq, and_self, ite_true, ite_false, if_true, if_false, Bool.not_true, Bool.not_false, Bool.not_eq_true', Bool.not_eq_false', outP1, outP2, outP3, noOwn, wipeS, restS, false_and, and_false, eq_self_iff_true, not_true_eq_false, not_false_eq_true, decide_true, decide_false]; exact hq)
theorem isInt_or (x : D) : (∃ a, x = .int a) ∨ isInt x = false := by
  cases x <;> first
    | exact .inl ⟨_, rfl⟩
    | exact .inr rfl
/-! ### what the law draws -/
def dl (ns : List Int) (p l s : Int) : List D := [.lst (ns.map .int), .int p, .int l, .int s, .int 3]
def dO (ds : List D) : Prop := ∃ (ns : List Int) (p l s : Int), ds = dl ns p l s ∧ 0 ≤ p
def sp_begin : DSp := fun ss Q _ => ∃ ns : List Int, ss = [.val (.scr (ns.map .int))] ∧ ns.length ≤ 63 ∧ Q (.fr (dl ns 0 0 7)) [.un]
theorem w_begin : ∀ ss Q E, ss.length = 1 → sp_begin ss Q E → wpSs [] law_begin.b0 (ent ss 1) (bodyP ss Q E) := by
  rintro ss Q E - ⟨ns, rfl, hl, hq⟩
  (try subst hk_law_begin_b0); unfold law_begin.b0; simp only [noOwn, wipeS, wpSs, wpS, wpE, wpA, wpC, wpT, wpTss, wpI, wpAnds, wpOrs, bindT, getS, setS, setsS, outS, slD, Pr.w, Pr.aw, pAdd, pInt, pMul, pCmp, pEq, pIsN, pLt, pLen, pAbs, pNeg, pInt1, pBool, pIsi, pIx, pSlc, pTupD, pLstD, pTupOf, pLstOf, pSum, pBs, pTwo, isNon, isIns, isTp, truth, items, ent, List.replicate, List.cons_append, List.nil_append, Rv.d, bodyP, at0, at1, at2, at3, at4, atm1, ixn1, ixn2, ixn3, set51, set52, set53, get51, D.int.injEq, D.bl.injEq, D.tup.injEq, D.lst.injEq, D.str.injEq, Sl.own.injEq, Sl.val.injEq, Rv.v.injEq, Rv.fr.injEq, Option.some.injEq, List.cons.injEq, exists_eq_left, exists_eq_left', exists_eq, exists_eq', exists_const, exists_and_left, true_and, and_true, true_implies, forall_const, Bool.false_eq_true, Bool.true_eq_false, false_implies, implies_true, decide_eq_true_eq, decide_eq_false_iff_not, Nat.reduceSub, Nat.reduceAdd, id_eq, List.length_cons, List.length_nil, List.length_append, reduceCtorEq, and_self, ite_true, ite_false, if_true, if_false, Bool.not_true, Bool.not_false, Bool.not_eq_true', Bool.not_eq_false', outP1, outP2, outP3, noOwn, wipeS, restS, false_and, and_false, eq_self_iff_true, not_true_eq_false, not_false_eq_true, decide_true, decide_false]
  refine compL_of (fun rest acc env => ∃ ms ks : List Int, ns = ms ++ ks ∧ rest = ks.map .int ∧ acc = ms.map .int ∧ env = [.val (.scr (ns.map .int)), .un]) (fun acc env hi => ?_) (fun d rest acc env hi R h1 h2 => ?_) _ _ _ ⟨[], ns, rfl, rfl, rfl, rfl⟩
  · obtain ⟨ms, ks, e, e1, rfl, rfl⟩ := hi
    have : ks = [] := by simpa using e1.symm
    subst this
    rw [List.append_nil] at e
    subst e
    exact ⟨by decide, hq⟩
  · obtain ⟨ms, ks, e, e1, rfl, rfl⟩ := hi
    cases ks with
    | nil => cases e1
    | cons k ks =>
      rw [List.map_cons] at e1
      cases e1
      (try simp only [wipeS, wpSs, wpS, wpE, wpA, wpC, wpT, wpTss, wpI, wpAnds, wpOrs, bindT, getS, setS, setsS, outS, slD, Pr.w, Pr.aw, pAdd, pInt, pMul, pCmp, pEq, pIsN, pLt, pLen, pAbs, pNeg, pInt1, pBool, pIsi, pIx, pSlc, pTupD, pLstD, pTupOf, pLstOf, pSum, pBs, pTwo, isNon, isIns, isTp, truth, items, ent, List.replicate, List.cons_append, List.nil_append, Rv.d, bodyP, at0, at1, at2, at3, at4, atm1, ixn1, ixn2, ixn3, set51, set52, set53, get51, D.int.injEq, D.bl.injEq, D.tup.injEq, D.lst.injEq, D.str.injEq, Sl.own.injEq, Sl.val.injEq, Rv.v.injEq, Rv.fr.injEq, Option.some.injEq, List.cons.injEq, exists_eq_left, exists_eq_left', exists_eq, exists_eq', exists_const, exists_and_left, true_and, and_true, true_implies, forall_const, Bool.false_eq_true, Bool.true_eq_false, false_implies, implies_true, decide_eq_true_eq, decide_eq_false_iff_not, Nat.reduceSub, Nat.reduceAdd, id_eq, List.length_cons, List.length_nil, List.length_append, reduceCtorEq, and_self, ite_true, ite_false, if_true, if_false, Bool.not_true, Bool.not_false, Bool.not_eq_true', Bool.not_eq_false', outP1, outP2, outP3, noOwn, wipeS, restS, false_and, and_false, eq_self_iff_true, not_true_eq_false, not_false_eq_true, decide_true, decide_false])
      refine h1 _ _ ?_ ⟨ms ++ [k], ks, by rw [e]; simp, rfl, by simp, rfl⟩
      rw [e] at hl
      simp only [List.length_append, List.length_map, List.length_cons] at hl ⊢
      have : 63 < LINE := by decide
      omega
def sp_draw : DSp := fun ss Q _ => ∃ (ds : List D) (m : Int), ss = [.own ds, .val (.int m)] ∧ dO ds ∧ 0 < m ∧ m < 2 ^ 64 ∧ ∀ ds' r, dO ds' → 0 ≤ r → r < m → Q (.v (.int r)) [.own ds', .un]
theorem w_draw : ∀ ss Q E, ss.length = 2 → sp_draw ss Q E → wpSs [] law_draw.b0 (ent ss 3) (bodyP ss Q E) := by
  rintro ss Q E - ⟨_, m, rfl, ⟨ns, p, l, s, rfl, hp⟩, h0, h1, hq⟩
  have hm : ∀ x : Int, 0 ≤ x % m ∧ x % m < m := fun x => ⟨Int.emod_nonneg _ (by omega), Int.emod_lt_of_pos _ h0⟩
  have dm : DivOk m := divOk_s h0 h1
  (try subst hk_law_draw_b0); unfold law_draw.b0; obtain ⟨k_law_draw_b0t0, hk_law_draw_b0t0⟩ : ∃ k, k = law_draw.b0t0 := ⟨_, rfl⟩; rw [← hk_law_draw_b0t0]; obtain ⟨k_law_draw_b1, hk_law_draw_b1⟩ : ∃ k, k = law_draw.b1 := ⟨_, rfl⟩; rw [← hk_law_draw_b1]; simp only [dl, wpSs, wpS, wpE, wpA, wpC, wpT, wpTss, wpI, wpAnds, wpOrs, bindT, getS, setS, setsS, outS, slD, Pr.w, Pr.aw, pAdd, pInt, pMul, pCmp, pEq, pIsN, pLt, pLen, pAbs, pNeg, pInt1, pBool, pIsi, pIx, pSlc, pTupD, pLstD, pTupOf, pLstOf, pSum, pBs, pTwo, isNon, isIns, isTp, truth, items, ent, List.replicate, List.cons_append, List.nil_append, Rv.d, bodyP, at0, at1, at2, at3, at4, atm1, ixn1, ixn2, ixn3, set51, set52, set53, get51, D.int.injEq, D.bl.injEq, D.tup.injEq, D.lst.injEq, D.str.injEq, Sl.own.injEq, Sl.val.injEq, Rv.v.injEq, Rv.fr.injEq, Option.some.injEq, List.cons.injEq, exists_eq_left, exists_eq_left', exists_eq, exists_eq', exists_const, exists_and_left, true_and, and_true, true_implies, forall_const, Bool.false_eq_true, Bool.true_eq_false, false_implies, implies_true, decide_eq_true_eq, decide_eq_false_iff_not, Nat.reduceSub, Nat.reduceAdd, id_eq, List.length_cons, List.length_nil, List.length_append, reduceCtorEq, and_self, ite_true, ite_false, if_true, if_false, Bool.not_true, Bool.not_false, Bool.not_eq_true', Bool.not_eq_false', outP1, outP2, outP3, noOwn, wipeS, restS, false_and, and_false, eq_self_iff_true, not_true_eq_false, not_false_eq_true, decide_true, decide_false]
  refine ⟨fun hl => ?_, fun hl => ?_⟩
  · (try subst hk_law_draw_b0t0); unfold law_draw.b0t0; obtain ⟨k_law_draw_b0t1, hk_law_draw_b0t1⟩ : ∃ k, k = law_draw.b0t1 := ⟨_, rfl⟩; rw [← hk_law_draw_b0t1]; simp only [wpSs, wpS, wpE, wpA, wpC, wpT, wpTss, wpI, wpAnds, wpOrs, bindT, getS, setS, setsS, outS, slD, Pr.w, Pr.aw, pAdd, pInt, pMul, pCmp, pEq, pIsN, pLt, pLen, pAbs, pNeg, pInt1, pBool, pIsi, pIx, pSlc, pTupD, pLstD, pTupOf, pLstOf, pSum, pBs, pTwo, isNon, isIns, isTp, truth, items, ent, List.replicate, List.cons_append, List.nil_append, Rv.d, bodyP, at0, at1, at2, at3, at4, atm1, ixn1, ixn2, ixn3, set51, set52, set53, get51, D.int.injEq, D.bl.injEq, D.tup.injEq, D.lst.injEq, D.str.injEq, Sl.own.injEq, Sl.val.injEq, Rv.v.injEq, Rv.fr.injEq, Option.some.injEq, List.cons.injEq, exists_eq_left, exists_eq_left', exists_eq, exists_eq', exists_const, exists_and_left, true_and, and_true, true_implies, forall_const, Bool.false_eq_true, Bool.true_eq_false, false_implies, implies_true, decide_eq_true_eq, decide_eq_false_iff_not, Nat.reduceSub, Nat.reduceAdd, id_eq, List.length_cons, List.length_nil, List.length_append, reduceCtorEq, and_self, ite_true, ite_false, if_true, if_false, Bool.not_true, Bool.not_false, Bool.not_eq_true', Bool.not_eq_false', outP1, outP2, outP3, noOwn, wipeS, restS, false_and, and_false, eq_self_iff_true, not_true_eq_false, not_false_eq_true, decide_true, decide_false]
    (try subst hk_law_draw_b0t1); unfold law_draw.b0t1; obtain ⟨k_law_draw_b0t2, hk_law_draw_b0t2⟩ : ∃ k, k = law_draw.b0t2 := ⟨_, rfl⟩; rw [← hk_law_draw_b0t2]; simp only [wpSs, wpS, wpE, wpA, wpC, wpT, wpTss, wpI, wpAnds, wpOrs, bindT, getS, setS, setsS, outS, slD, Pr.w, Pr.aw, pAdd, pInt, pMul, pCmp, pEq, pIsN, pLt, pLen, pAbs, pNeg, pInt1, pBool, pIsi, pIx, pSlc, pTupD, pLstD, pTupOf, pLstOf, pSum, pBs, pTwo, isNon, isIns, isTp, truth, items, ent, List.replicate, List.cons_append, List.nil_append, Rv.d, bodyP, at0, at1, at2, at3, at4, atm1, ixn1, ixn2, ixn3, set51, set52, set53, get51, D.int.injEq, D.bl.injEq, D.tup.injEq, D.lst.injEq, D.str.injEq, Sl.own.injEq, Sl.val.injEq, Rv.v.injEq, Rv.fr.injEq, Option.some.injEq, List.cons.injEq, exists_eq_left, exists_eq_left', exists_eq, exists_eq', exists_const, exists_and_left, true_and, and_true, true_implies, forall_const, Bool.false_eq_true, Bool.true_eq_false, false_implies, implies_true, decide_eq_true_eq, decide_eq_false_iff_not, Nat.reduceSub, Nat.reduceAdd, id_eq, List.length_cons, List.length_nil, List.length_append, reduceCtorEq, and_self, ite_true, ite_false, if_true, if_false, Bool.not_true, Bool.not_false, Bool.not_eq_true', Bool.not_eq_false', outP1, outP2, outP3, noOwn, wipeS, restS, false_and, and_false, eq_self_iff_true, not_true_eq_false, not_false_eq_true, decide_true, decide_false]
    refine ⟨dm, ?_⟩
    (try subst hk_law_draw_b0t2); unfold law_draw.b0t2; simp only [wpSs, wpS, wpE, wpA, wpC, wpT, wpTss, wpI, wpAnds, wpOrs, bindT, getS, setS, setsS, outS, slD, Pr.w, Pr.aw, pAdd, pInt, pMul, pCmp, pEq, pIsN, pLt, pLen, pAbs, pNeg, pInt1, pBool, pIsi, pIx, pSlc, pTupD, pLstD, pTupOf, pLstOf, pSum, pBs, pTwo, isNon, isIns, isTp, truth, items, ent, List.replicate, List.cons_append, List.nil_append, Rv.d, bodyP, at0, at1, at2, at3, at4, atm1, ixn1, ixn2, ixn3, set51, set52, set53, get51, D.int.injEq, D.bl.injEq, D.tup.injEq, D.lst.injEq, D.str.injEq, Sl.own.injEq, Sl.val.injEq, Rv.v.injEq, Rv.fr.injEq, Option.some.injEq, List.cons.injEq, exists_eq_left, exists_eq_left', exists_eq, exists_eq', exists_const, exists_and_left, true_and, and_true, true_implies, forall_const, Bool.false_eq_true, Bool.true_eq_false, false_implies, implies_true, decide_eq_true_eq, decide_eq_false_iff_not, Nat.reduceSub, Nat.reduceAdd, id_eq, List.length_cons, List.length_nil, List.length_append, reduceCtorEq, and_self, ite_true, ite_false, if_true, if_false, Bool.not_true, Bool.not_false, Bool.not_eq_true', Bool.not_eq_false', outP1, outP2, outP3, noOwn, wipeS, restS, false_and, and_false, eq_self_iff_true, not_true_eq_false, not_false_eq_true, decide_true, decide_false]
    exact ⟨h0, hq _ _ ⟨ns, p, l / m, s, rfl, hp⟩ (hm _).1 (hm _).2⟩
  · have rest : ∀ (size : Int) (x : Sl), wpSs [] law_draw.b3 [Sl.own (dl ns p l s), Sl.val (D.int m), Sl.un, Sl.val (.int size), x] (bodyP [.own (dl ns p l s), .val (.int m)] Q E) := fun size x => by
      (try subst hk_law_draw_b3); unfold law_draw.b3; obtain ⟨k_law_draw_b4, hk_law_draw_b4⟩ : ∃ k, k = law_draw.b4 := ⟨_, rfl⟩; rw [← hk_law_draw_b4]; simp only [dl, wpSs, wpS, wpE, wpA, wpC, wpT, wpTss, wpI, wpAnds, wpOrs, bindT, getS, setS, setsS, outS, slD, Pr.w, Pr.aw, pAdd, pInt, pMul, pCmp, pEq, pIsN, pLt, pLen, pAbs, pNeg, pInt1, pBool, pIsi, pIx, pSlc, pTupD, pLstD, pTupOf, pLstOf, pSum, pBs, pTwo, isNon, isIns, isTp, truth, items, ent, List.replicate, List.cons_append, List.nil_append, Rv.d, bodyP, at0, at1, at2, at3, at4, atm1, ixn1, ixn2, ixn3, set51, set52, set53, get51, D.int.injEq, D.bl.injEq, D.tup.injEq, D.lst.injEq, D.str.injEq, Sl.own.injEq, Sl.val.injEq, Rv.v.injEq, Rv.fr.injEq, Option.some.injEq, List.cons.injEq, exists_eq_left, exists_eq_left', exists_eq, exists_eq', exists_const, exists_and_left, true_and, and_true, true_implies, forall_const, Bool.false_eq_true, Bool.true_eq_false, false_implies, implies_true, decide_eq_true_eq, decide_eq_false_iff_not, Nat.reduceSub, Nat.reduceAdd, id_eq, List.length_cons, List.length_nil, List.length_append, reduceCtorEq, and_self, ite_true, ite_false, if_true, if_false, Bool.not_true, Bool.not_false, Bool.not_eq_true', Bool.not_eq_false', outP1, outP2, outP3, noOwn, wipeS, restS, false_and, and_false, eq_self_iff_true, not_true_eq_false, not_false_eq_true, decide_true, decide_false]
      (try subst hk_law_draw_b4); unfold law_draw.b4; obtain ⟨k_law_draw_b4t0, hk_law_draw_b4t0⟩ : ∃ k, k = law_draw.b4t0 := ⟨_, rfl⟩; rw [← hk_law_draw_b4t0]; obtain ⟨k_law_draw_b5, hk_law_draw_b5⟩ : ∃ k, k = law_draw.b5 := ⟨_, rfl⟩; rw [← hk_law_draw_b5]; simp only [wpSs, wpS, wpE, wpA, wpC, wpT, wpTss, wpI, wpAnds, wpOrs, bindT, getS, setS, setsS, outS, slD, Pr.w, Pr.aw, pAdd, pInt, pMul, pCmp, pEq, pIsN, pLt, pLen, pAbs, pNeg, pInt1, pBool, pIsi, pIx, pSlc, pTupD, pLstD, pTupOf, pLstOf, pSum, pBs, pTwo, isNon, isIns, isTp, truth, items, ent, List.replicate, List.cons_append, List.nil_append, Rv.d, bodyP, at0, at1, at2, at3, at4, atm1, ixn1, ixn2, ixn3, set51, set52, set53, get51, D.int.injEq, D.bl.injEq, D.tup.injEq, D.lst.injEq, D.str.injEq, Sl.own.injEq, Sl.val.injEq, Rv.v.injEq, Rv.fr.injEq, Option.some.injEq, List.cons.injEq, exists_eq_left, exists_eq_left', exists_eq, exists_eq', exists_const, exists_and_left, true_and, and_true, true_implies, forall_const, Bool.false_eq_true, Bool.true_eq_false, false_implies, implies_true, decide_eq_true_eq, decide_eq_false_iff_not, Nat.reduceSub, Nat.reduceAdd, id_eq, List.length_cons, List.length_nil, List.length_append, reduceCtorEq, and_self, ite_true, ite_false, if_true, if_false, Bool.not_true, Bool.not_false, Bool.not_eq_true', Bool.not_eq_false', outP1, outP2, outP3, noOwn, wipeS, restS, false_and, and_false, eq_self_iff_true, not_true_eq_false, not_false_eq_true, decide_true, decide_false]
      refine ⟨⟨by decide, by decide, by decide⟩, mulOk_l (by decide), fun hs => ?_, fun hs => ?_⟩
      · (try subst hk_law_draw_b4t0); unfold law_draw.b4t0; obtain ⟨k_law_draw_b4t1, hk_law_draw_b4t1⟩ : ∃ k, k = law_draw.b4t1 := ⟨_, rfl⟩; rw [← hk_law_draw_b4t1]; simp only [wpSs, wpS, wpE, wpA, wpC, wpT, wpTss, wpI, wpAnds, wpOrs, bindT, getS, setS, setsS, outS, slD, Pr.w, Pr.aw, pAdd, pInt, pMul, pCmp, pEq, pIsN, pLt, pLen, pAbs, pNeg, pInt1, pBool, pIsi, pIx, pSlc, pTupD, pLstD, pTupOf, pLstOf, pSum, pBs, pTwo, isNon, isIns, isTp, truth, items, ent, List.replicate, List.cons_append, List.nil_append, Rv.d, bodyP, at0, at1, at2, at3, at4, atm1, ixn1, ixn2, ixn3, set51, set52, set53, get51, D.int.injEq, D.bl.injEq, D.tup.injEq, D.lst.injEq, D.str.injEq, Sl.own.injEq, Sl.val.injEq, Rv.v.injEq, Rv.fr.injEq, Option.some.injEq, List.cons.injEq, exists_eq_left, exists_eq_left', exists_eq, exists_eq', exists_const, exists_and_left, true_and, and_true, true_implies, forall_const, Bool.false_eq_true, Bool.true_eq_false, false_implies, implies_true, decide_eq_true_eq, decide_eq_false_iff_not, Nat.reduceSub, Nat.reduceAdd, id_eq, List.length_cons, List.length_nil, List.length_append, reduceCtorEq, and_self, ite_true, ite_false, if_true, if_false, Bool.not_true, Bool.not_false, Bool.not_eq_true', Bool.not_eq_false', outP1, outP2, outP3, noOwn, wipeS, restS, false_and, and_false, eq_self_iff_true, not_true_eq_false, not_false_eq_true, decide_true, decide_false]
        refine ⟨divOk_s (by decide) (by decide), ⟨by decide, by decide, by decide⟩, Int.mul_pos (by decide) (Int.pow_pos (by decide)), ?_⟩
        (try subst hk_law_draw_b4t1); unfold law_draw.b4t1; obtain ⟨k_law_draw_b4t2, hk_law_draw_b4t2⟩ : ∃ k, k = law_draw.b4t2 := ⟨_, rfl⟩; rw [← hk_law_draw_b4t2]; simp only [wpSs, wpS, wpE, wpA, wpC, wpT, wpTss, wpI, wpAnds, wpOrs, bindT, getS, setS, setsS, outS, slD, Pr.w, Pr.aw, pAdd, pInt, pMul, pCmp, pEq, pIsN, pLt, pLen, pAbs, pNeg, pInt1, pBool, pIsi, pIx, pSlc, pTupD, pLstD, pTupOf, pLstOf, pSum, pBs, pTwo, isNon, isIns, isTp, truth, items, ent, List.replicate, List.cons_append, List.nil_append, Rv.d, bodyP, at0, at1, at2, at3, at4, atm1, ixn1, ixn2, ixn3, set51, set52, set53, get51, D.int.injEq, D.bl.injEq, D.tup.injEq, D.lst.injEq, D.str.injEq, Sl.own.injEq, Sl.val.injEq, Rv.v.injEq, Rv.fr.injEq, Option.some.injEq, List.cons.injEq, exists_eq_left, exists_eq_left', exists_eq, exists_eq', exists_const, exists_and_left, true_and, and_true, true_implies, forall_const, Bool.false_eq_true, Bool.true_eq_false, false_implies, implies_true, decide_eq_true_eq, decide_eq_false_iff_not, Nat.reduceSub, Nat.reduceAdd, id_eq, List.length_cons, List.length_nil, List.length_append, reduceCtorEq, and_self, ite_true, ite_false, if_true, if_false, Bool.not_true, Bool.not_false, Bool.not_eq_true', Bool.not_eq_false', outP1, outP2, outP3, noOwn, wipeS, restS, false_and, and_false, eq_self_iff_true, not_true_eq_false, not_false_eq_true, decide_true, decide_false]
        refine ⟨dm, ?_⟩
        (try subst hk_law_draw_b4t2); unfold law_draw.b4t2; simp only [wpSs, wpS, wpE, wpA, wpC, wpT, wpTss, wpI, wpAnds, wpOrs, bindT, getS, setS, setsS, outS, slD, Pr.w, Pr.aw, pAdd, pInt, pMul, pCmp, pEq, pIsN, pLt, pLen, pAbs, pNeg, pInt1, pBool, pIsi, pIx, pSlc, pTupD, pLstD, pTupOf, pLstOf, pSum, pBs, pTwo, isNon, isIns, isTp, truth, items, ent, List.replicate, List.cons_append, List.nil_append, Rv.d, bodyP, at0, at1, at2, at3, at4, atm1, ixn1, ixn2, ixn3, set51, set52, set53, get51, D.int.injEq, D.bl.injEq, D.tup.injEq, D.lst.injEq, D.str.injEq, Sl.own.injEq, Sl.val.injEq, Rv.v.injEq, Rv.fr.injEq, Option.some.injEq, List.cons.injEq, exists_eq_left, exists_eq_left', exists_eq, exists_eq', exists_const, exists_and_left, true_and, and_true, true_implies, forall_const, Bool.false_eq_true, Bool.true_eq_false, false_implies, implies_true, decide_eq_true_eq, decide_eq_false_iff_not, Nat.reduceSub, Nat.reduceAdd, id_eq, List.length_cons, List.length_nil, List.length_append, reduceCtorEq, and_self, ite_true, ite_false, if_true, if_false, Bool.not_true, Bool.not_false, Bool.not_eq_true', Bool.not_eq_false', outP1, outP2, outP3, noOwn, wipeS, restS, false_and, and_false, eq_self_iff_true, not_true_eq_false, not_false_eq_true, decide_true, decide_false]
        exact ⟨h0, hq _ _ ⟨ns, p + 1, _, s, rfl, by omega⟩ (hm _).1 (hm _).2⟩
      · (try subst hk_law_draw_b5); unfold law_draw.b5; obtain ⟨k_law_draw_b6, hk_law_draw_b6⟩ : ∃ k, k = law_draw.b6 := ⟨_, rfl⟩; rw [← hk_law_draw_b6]; simp only [wpSs, wpS, wpE, wpA, wpC, wpT, wpTss, wpI, wpAnds, wpOrs, bindT, getS, setS, setsS, outS, slD, Pr.w, Pr.aw, pAdd, pInt, pMul, pCmp, pEq, pIsN, pLt, pLen, pAbs, pNeg, pInt1, pBool, pIsi, pIx, pSlc, pTupD, pLstD, pTupOf, pLstOf, pSum, pBs, pTwo, isNon, isIns, isTp, truth, items, ent, List.replicate, List.cons_append, List.nil_append, Rv.d, bodyP, at0, at1, at2, at3, at4, atm1, ixn1, ixn2, ixn3, set51, set52, set53, get51, D.int.injEq, D.bl.injEq, D.tup.injEq, D.lst.injEq, D.str.injEq, Sl.own.injEq, Sl.val.injEq, Rv.v.injEq, Rv.fr.injEq, Option.some.injEq, List.cons.injEq, exists_eq_left, exists_eq_left', exists_eq, exists_eq', exists_const, exists_and_left, true_and, and_true, true_implies, forall_const, Bool.false_eq_true, Bool.true_eq_false, false_implies, implies_true, decide_eq_true_eq, decide_eq_false_iff_not, Nat.reduceSub, Nat.reduceAdd, id_eq, List.length_cons, List.length_nil, List.length_append, reduceCtorEq, and_self, ite_true, ite_false, if_true, if_false, Bool.not_true, Bool.not_false, Bool.not_eq_true', Bool.not_eq_false', outP1, outP2, outP3, noOwn, wipeS, restS, false_and, and_false, eq_self_iff_true, not_true_eq_false, not_false_eq_true, decide_true, decide_false]
        refine ⟨mulOk_r (by decide), ?_⟩
        refine ⟨by decide, mulOk_r (by decide), mulOk_r (by decide), by decide, ?_⟩
        (try subst hk_law_draw_b6); unfold law_draw.b6; simp only [wpSs, wpS, wpE, wpA, wpC, wpT, wpTss, wpI, wpAnds, wpOrs, bindT, getS, setS, setsS, outS, slD, Pr.w, Pr.aw, pAdd, pInt, pMul, pCmp, pEq, pIsN, pLt, pLen, pAbs, pNeg, pInt1, pBool, pIsi, pIx, pSlc, pTupD, pLstD, pTupOf, pLstOf, pSum, pBs, pTwo, isNon, isIns, isTp, truth, items, ent, List.replicate, List.cons_append, List.nil_append, Rv.d, bodyP, at0, at1, at2, at3, at4, atm1, ixn1, ixn2, ixn3, set51, set52, set53, get51, D.int.injEq, D.bl.injEq, D.tup.injEq, D.lst.injEq, D.str.injEq, Sl.own.injEq, Sl.val.injEq, Rv.v.injEq, Rv.fr.injEq, Option.some.injEq, List.cons.injEq, exists_eq_left, exists_eq_left', exists_eq, exists_eq', exists_const, exists_and_left, true_and, and_true, true_implies, forall_const, Bool.false_eq_true, Bool.true_eq_false, false_implies, implies_true, decide_eq_true_eq, decide_eq_false_iff_not, Nat.reduceSub, Nat.reduceAdd, id_eq, List.length_cons, List.length_nil, List.length_append, reduceCtorEq, and_self, ite_true, ite_false, if_true, if_false, Bool.not_true, Bool.not_false, Bool.not_eq_true', Bool.not_eq_false', outP1, outP2, outP3, noOwn, wipeS, restS, false_and, and_false, eq_self_iff_true, not_true_eq_false, not_false_eq_true, decide_true, decide_false]
        exact ⟨divOk_s (by decide) (by decide), h0, hq _ _ ⟨ns, p + 1, l, _, rfl, by omega⟩ (hm _).1 (hm _).2⟩
    (try subst hk_law_draw_b1); unfold law_draw.b1; obtain ⟨k_law_draw_b2, hk_law_draw_b2⟩ : ∃ k, k = law_draw.b2 := ⟨_, rfl⟩; rw [← hk_law_draw_b2]; simp only [wpSs, wpS, wpE, wpA, wpC, wpT, wpTss, wpI, wpAnds, wpOrs, bindT, getS, setS, setsS, outS, slD, Pr.w, Pr.aw, pAdd, pInt, pMul, pCmp, pEq, pIsN, pLt, pLen, pAbs, pNeg, pInt1, pBool, pIsi, pIx, pSlc, pTupD, pLstD, pTupOf, pLstOf, pSum, pBs, pTwo, isNon, isIns, isTp, truth, items, ent, List.replicate, List.cons_append, List.nil_append, Rv.d, bodyP, at0, at1, at2, at3, at4, atm1, ixn1, ixn2, ixn3, set51, set52, set53, get51, D.int.injEq, D.bl.injEq, D.tup.injEq, D.lst.injEq, D.str.injEq, Sl.own.injEq, Sl.val.injEq, Rv.v.injEq, Rv.fr.injEq, Option.some.injEq, List.cons.injEq, exists_eq_left, exists_eq_left', exists_eq, exists_eq', exists_const, exists_and_left, true_and, and_true, true_implies, forall_const, Bool.false_eq_true, Bool.true_eq_false, false_implies, implies_true, decide_eq_true_eq, decide_eq_false_iff_not, Nat.reduceSub, Nat.reduceAdd, id_eq, List.length_cons, List.length_nil, List.length_append, reduceCtorEq, and_self, ite_true, ite_false, if_true, if_false, Bool.not_true, Bool.not_false, Bool.not_eq_true', Bool.not_eq_false', outP1, outP2, outP3, noOwn, wipeS, restS, false_and, and_false, eq_self_iff_true, not_true_eq_false, not_false_eq_true, decide_true, decide_false]
    (try subst hk_law_draw_b2); unfold law_draw.b2; obtain ⟨k_law_draw_b2t0, hk_law_draw_b2t0⟩ : ∃ k, k = law_draw.b2t0 := ⟨_, rfl⟩; rw [← hk_law_draw_b2t0]; obtain ⟨k_law_draw_b3, hk_law_draw_b3⟩ : ∃ k, k = law_draw.b3 := ⟨_, rfl⟩; rw [← hk_law_draw_b3]; simp only [wpSs, wpS, wpE, wpA, wpC, wpT, wpTss, wpI, wpAnds, wpOrs, bindT, getS, setS, setsS, outS, slD, Pr.w, Pr.aw, pAdd, pInt, pMul, pCmp, pEq, pIsN, pLt, pLen, pAbs, pNeg, pInt1, pBool, pIsi, pIx, pSlc, pTupD, pLstD, pTupOf, pLstOf, pSum, pBs, pTwo, isNon, isIns, isTp, truth, items, ent, List.replicate, List.cons_append, List.nil_append, Rv.d, bodyP, at0, at1, at2, at3, at4, atm1, ixn1, ixn2, ixn3, set51, set52, set53, get51, D.int.injEq, D.bl.injEq, D.tup.injEq, D.lst.injEq, D.str.injEq, Sl.own.injEq, Sl.val.injEq, Rv.v.injEq, Rv.fr.injEq, Option.some.injEq, List.cons.injEq, exists_eq_left, exists_eq_left', exists_eq, exists_eq', exists_const, exists_and_left, true_and, and_true, true_implies, forall_const, Bool.false_eq_true, Bool.true_eq_false, false_implies, implies_true, decide_eq_true_eq, decide_eq_false_iff_not, Nat.reduceSub, Nat.reduceAdd, id_eq, List.length_cons, List.length_nil, List.length_append, reduceCtorEq, and_self, ite_true, ite_false, if_true, if_false, Bool.not_true, Bool.not_false, Bool.not_eq_true', Bool.not_eq_false', outP1, outP2, outP3, noOwn, wipeS, restS, false_and, and_false, eq_self_iff_true, not_true_eq_false, not_false_eq_true, decide_true, decide_false]
    refine ⟨fun h => ?_, fun h => ?_⟩
    · rw [List.length_map] at h
      (try subst hk_law_draw_b2t0); unfold law_draw.b2t0; obtain ⟨k_law_draw_b2t1, hk_law_draw_b2t1⟩ : ∃ k, k = law_draw.b2t1 := ⟨_, rfl⟩; rw [← hk_law_draw_b2t1]; simp only [wpSs, wpS, wpE, wpA, wpC, wpT, wpTss, wpI, wpAnds, wpOrs, bindT, getS, setS, setsS, outS, slD, Pr.w, Pr.aw, pAdd, pInt, pMul, pCmp, pEq, pIsN, pLt, pLen, pAbs, pNeg, pInt1, pBool, pIsi, pIx, pSlc, pTupD, pLstD, pTupOf, pLstOf, pSum, pBs, pTwo, isNon, isIns, isTp, truth, items, ent, List.replicate, List.cons_append, List.nil_append, Rv.d, bodyP, at0, at1, at2, at3, at4, atm1, ixn1, ixn2, ixn3, set51, set52, set53, get51, D.int.injEq, D.bl.injEq, D.tup.injEq, D.lst.injEq, D.str.injEq, Sl.own.injEq, Sl.val.injEq, Rv.v.injEq, Rv.fr.injEq, Option.some.injEq, List.cons.injEq, exists_eq_left, exists_eq_left', exists_eq, exists_eq', exists_const, exists_and_left, true_and, and_true, true_implies, forall_const, Bool.false_eq_true, Bool.true_eq_false, false_implies, implies_true, decide_eq_true_eq, decide_eq_false_iff_not, Nat.reduceSub, Nat.reduceAdd, id_eq, List.length_cons, List.length_nil, List.length_append, reduceCtorEq, and_self, ite_true, ite_false, if_true, if_false, Bool.not_true, Bool.not_false, Bool.not_eq_true', Bool.not_eq_false', outP1, outP2, outP3, noOwn, wipeS, restS, false_and, and_false, eq_self_iff_true, not_true_eq_false, not_false_eq_true, decide_true, decide_false]
      have hk : p.toNat < ns.length := by omega
      refine ⟨.int ns[p.toNat], ?_, ?_⟩
      · have e : atI (ns.map D.int) ((p.toNat : Nat) : Int) = some (.int ns[p.toNat]) := atI_nat (by rw [List.getElem?_map, List.getElem?_eq_getElem hk]; rfl)
        rwa [show ((p.toNat : Nat) : Int) = p by omega] at e
      · (try subst hk_law_draw_b2t1); unfold law_draw.b2t1; simp only [wpSs, wpS, wpE, wpA, wpC, wpT, wpTss, wpI, wpAnds, wpOrs, bindT, getS, setS, setsS, outS, slD, Pr.w, Pr.aw, pAdd, pInt, pMul, pCmp, pEq, pIsN, pLt, pLen, pAbs, pNeg, pInt1, pBool, pIsi, pIx, pSlc, pTupD, pLstD, pTupOf, pLstOf, pSum, pBs, pTwo, isNon, isIns, isTp, truth, items, ent, List.replicate, List.cons_append, List.nil_append, Rv.d, bodyP, at0, at1, at2, at3, at4, atm1, ixn1, ixn2, ixn3, set51, set52, set53, get51, D.int.injEq, D.bl.injEq, D.tup.injEq, D.lst.injEq, D.str.injEq, Sl.own.injEq, Sl.val.injEq, Rv.v.injEq, Rv.fr.injEq, Option.some.injEq, List.cons.injEq, exists_eq_left, exists_eq_left', exists_eq, exists_eq', exists_const, exists_and_left, true_and, and_true, true_implies, forall_const, Bool.false_eq_true, Bool.true_eq_false, false_implies, implies_true, decide_eq_true_eq, decide_eq_false_iff_not, Nat.reduceSub, Nat.reduceAdd, id_eq, List.length_cons, List.length_nil, List.length_append, reduceCtorEq, and_self, ite_true, ite_false, if_true, if_false, Bool.not_true, Bool.not_false, Bool.not_eq_true', Bool.not_eq_false', outP1, outP2, outP3, noOwn, wipeS, restS, false_and, and_false, eq_self_iff_true, not_true_eq_false, not_false_eq_true, decide_true, decide_false]
        refine ⟨mulOk_l (by decide), ?_⟩
        subst hk_law_draw_b3
        exact rest _ _
    · subst hk_law_draw_b3
      exact rest 0 .un
/-! ### numbers drawn -/
def G_num : Gam := [("_law_draw", 2, sp_draw)]
theorem G_num.s0 : gam G_num 0 = sp_draw := rfl
def sp_number : DSp := fun ss Q _ => ∃ ds : List D, ss = [.own ds] ∧ dO ds ∧ ∀ ds' r, dO ds' → 0 ≤ r → r < 2 ^ 130 → Q (.v (.int r)) [.own ds']
theorem w_number : ∀ ss Q E, ss.length = 1 → sp_number ss Q E → wpSs G_num law_number.b0 (ent ss 3) (bodyP ss Q E) := by
  rintro ss Q E - ⟨ds, rfl, hd, hq⟩
  (try subst hk_law_number_b0); unfold law_number.b0; obtain ⟨k_law_number_b1, hk_law_number_b1⟩ : ∃ k, k = law_number.b1 := ⟨_, rfl⟩; rw [← hk_law_number_b1]; simp only [G_num.s0, wpSs, wpS, wpE, wpA, wpC, wpT, wpTss, wpI, wpAnds, wpOrs, bindT, getS, setS, setsS, outS, slD, Pr.w, Pr.aw, pAdd, pInt, pMul, pCmp, pEq, pIsN, pLt, pLen, pAbs, pNeg, pInt1, pBool, pIsi, pIx, pSlc, pTupD, pLstD, pTupOf, pLstOf, pSum, pBs, pTwo, isNon, isIns, isTp, truth, items, ent, List.replicate, List.cons_append, List.nil_append, Rv.d, bodyP, at0, at1, at2, at3, at4, atm1, ixn1, ixn2, ixn3, set51, set52, set53, get51, D.int.injEq, D.bl.injEq, D.tup.injEq, D.lst.injEq, D.str.injEq, Sl.own.injEq, Sl.val.injEq, Rv.v.injEq, Rv.fr.injEq, Option.some.injEq, List.cons.injEq, exists_eq_left, exists_eq_left', exists_eq, exists_eq', exists_const, exists_and_left, true_and, and_true, true_implies, forall_const, Bool.false_eq_true, Bool.true_eq_false, false_implies, implies_true, decide_eq_true_eq, decide_eq_false_iff_not, Nat.reduceSub, Nat.reduceAdd, id_eq, List.length_cons, List.length_nil, List.length_append, reduceCtorEq, and_self, ite_true, ite_false, if_true, if_false, Bool.not_true, Bool.not_false, Bool.not_eq_true', Bool.not_eq_false', outP1, outP2, outP3, noOwn, wipeS, restS, false_and, and_false, eq_self_iff_true, not_true_eq_false, not_false_eq_true, decide_true, decide_false]
  refine ⟨ds, 4, rfl, hd, by decide, by decide, fun d1 w h1 hw0 hw1 => ?_⟩
  (try simp only [wpSs, wpS, wpE, wpA, wpC, wpT, wpTss, wpI, wpAnds, wpOrs, bindT, getS, setS, setsS, outS, slD, Pr.w, Pr.aw, pAdd, pInt, pMul, pCmp, pEq, pIsN, pLt, pLen, pAbs, pNeg, pInt1, pBool, pIsi, pIx, pSlc, pTupD, pLstD, pTupOf, pLstOf, pSum, pBs, pTwo, isNon, isIns, isTp, truth, items, ent, List.replicate, List.cons_append, List.nil_append, Rv.d, bodyP, at0, at1, at2, at3, at4, atm1, ixn1, ixn2, ixn3, set51, set52, set53, get51, D.int.injEq, D.bl.injEq, D.tup.injEq, D.lst.injEq, D.str.injEq, Sl.own.injEq, Sl.val.injEq, Rv.v.injEq, Rv.fr.injEq, Option.some.injEq, List.cons.injEq, exists_eq_left, exists_eq_left', exists_eq, exists_eq', exists_const, exists_and_left, true_and, and_true, true_implies, forall_const, Bool.false_eq_true, Bool.true_eq_false, false_implies, implies_true, decide_eq_true_eq, decide_eq_false_iff_not, Nat.reduceSub, Nat.reduceAdd, id_eq, List.length_cons, List.length_nil, List.length_append, reduceCtorEq, and_self, ite_true, ite_false, if_true, if_false, Bool.not_true, Bool.not_false, Bool.not_eq_true', Bool.not_eq_false', outP1, outP2, outP3, noOwn, wipeS, restS, false_and, and_false, eq_self_iff_true, not_true_eq_false, not_false_eq_true, decide_true, decide_false])
  (try subst hk_law_number_b1); unfold law_number.b1; obtain ⟨k_law_number_b1t0, hk_law_number_b1t0⟩ : ∃ k, k = law_number.b1t0 := ⟨_, rfl⟩; rw [← hk_law_number_b1t0]; obtain ⟨k_law_number_b2, hk_law_number_b2⟩ : ∃ k, k = law_number.b2 := ⟨_, rfl⟩; rw [← hk_law_number_b2]; simp only [deq_int, plain_int, wpSs, wpS, wpE, wpA, wpC, wpT, wpTss, wpI, wpAnds, wpOrs, bindT, getS, setS, setsS, outS, slD, Pr.w, Pr.aw, pAdd, pInt, pMul, pCmp, pEq, pIsN, pLt, pLen, pAbs, pNeg, pInt1, pBool, pIsi, pIx, pSlc, pTupD, pLstD, pTupOf, pLstOf, pSum, pBs, pTwo, isNon, isIns, isTp, truth, items, ent, List.replicate, List.cons_append, List.nil_append, Rv.d, bodyP, at0, at1, at2, at3, at4, atm1, ixn1, ixn2, ixn3, set51, set52, set53, get51, D.int.injEq, D.bl.injEq, D.tup.injEq, D.lst.injEq, D.str.injEq, Sl.own.injEq, Sl.val.injEq, Rv.v.injEq, Rv.fr.injEq, Option.some.injEq, List.cons.injEq, exists_eq_left, exists_eq_left', exists_eq, exists_eq', exists_const, exists_and_left, true_and, and_true, true_implies, forall_const, Bool.false_eq_true, Bool.true_eq_false, false_implies, implies_true, decide_eq_true_eq, decide_eq_false_iff_not, Nat.reduceSub, Nat.reduceAdd, id_eq, List.length_cons, List.length_nil, List.length_append, reduceCtorEq, and_self, ite_true, ite_false, if_true, if_false, Bool.not_true, Bool.not_false, Bool.not_eq_true', Bool.not_eq_false', outP1, outP2, outP3, noOwn, wipeS, restS, false_and, and_false, eq_self_iff_true, not_true_eq_false, not_false_eq_true, decide_true, decide_false]
  refine ⟨fun h => ?_, fun h => ?_⟩
  · (try subst hk_law_number_b1t0); unfold law_number.b1t0; simp only [G_num.s0, wpSs, wpS, wpE, wpA, wpC, wpT, wpTss, wpI, wpAnds, wpOrs, bindT, getS, setS, setsS, outS, slD, Pr.w, Pr.aw, pAdd, pInt, pMul, pCmp, pEq, pIsN, pLt, pLen, pAbs, pNeg, pInt1, pBool, pIsi, pIx, pSlc, pTupD, pLstD, pTupOf, pLstOf, pSum, pBs, pTwo, isNon, isIns, isTp, truth, items, ent, List.replicate, List.cons_append, List.nil_append, Rv.d, bodyP, at0, at1, at2, at3, at4, atm1, ixn1, ixn2, ixn3, set51, set52, set53, get51, D.int.injEq, D.bl.injEq, D.tup.injEq, D.lst.injEq, D.str.injEq, Sl.own.injEq, Sl.val.injEq, Rv.v.injEq, Rv.fr.injEq, Option.some.injEq, List.cons.injEq, exists_eq_left, exists_eq_left', exists_eq, exists_eq', exists_const, exists_and_left, true_and, and_true, true_implies, forall_const, Bool.false_eq_true, Bool.true_eq_false, false_implies, implies_true, decide_eq_true_eq, decide_eq_false_iff_not, Nat.reduceSub, Nat.reduceAdd, id_eq, List.length_cons, List.length_nil, List.length_append, reduceCtorEq, and_self, ite_true, ite_false, if_true, if_false, Bool.not_true, Bool.not_false, Bool.not_eq_true', Bool.not_eq_false', outP1, outP2, outP3, noOwn, wipeS, restS, false_and, and_false, eq_self_iff_true, not_true_eq_false, not_false_eq_true, decide_true, decide_false]
    refine ⟨d1, 13, rfl, h1, by decide, by decide, fun d2 r h2 r0 r1 => ?_⟩
    (try simp only [wpSs, wpS, wpE, wpA, wpC, wpT, wpTss, wpI, wpAnds, wpOrs, bindT, getS, setS, setsS, outS, slD, Pr.w, Pr.aw, pAdd, pInt, pMul, pCmp, pEq, pIsN, pLt, pLen, pAbs, pNeg, pInt1, pBool, pIsi, pIx, pSlc, pTupD, pLstD, pTupOf, pLstOf, pSum, pBs, pTwo, isNon, isIns, isTp, truth, items, ent, List.replicate, List.cons_append, List.nil_append, Rv.d, bodyP, at0, at1, at2, at3, at4, atm1, ixn1, ixn2, ixn3, set51, set52, set53, get51, D.int.injEq, D.bl.injEq, D.tup.injEq, D.lst.injEq, D.str.injEq, Sl.own.injEq, Sl.val.injEq, Rv.v.injEq, Rv.fr.injEq, Option.some.injEq, List.cons.injEq, exists_eq_left, exists_eq_left', exists_eq, exists_eq', exists_const, exists_and_left, true_and, and_true, true_implies, forall_const, Bool.false_eq_true, Bool.true_eq_false, false_implies, implies_true, decide_eq_true_eq, decide_eq_false_iff_not, Nat.reduceSub, Nat.reduceAdd, id_eq, List.length_cons, List.length_nil, List.length_append, reduceCtorEq, and_self, ite_true, ite_false, if_true, if_false, Bool.not_true, Bool.not_false, Bool.not_eq_true', Bool.not_eq_false', outP1, outP2, outP3, noOwn, wipeS, restS, false_and, and_false, eq_self_iff_true, not_true_eq_false, not_false_eq_true, decide_true, decide_false])
    exact hq d2 r h2 r0 (Int.lt_trans r1 (by decide))
  (try subst hk_law_number_b2); unfold law_number.b2; obtain ⟨k_law_number_b2t0, hk_law_number_b2t0⟩ : ∃ k, k = law_number.b2t0 := ⟨_, rfl⟩; rw [← hk_law_number_b2t0]; obtain ⟨k_law_number_b3, hk_law_number_b3⟩ : ∃ k, k = law_number.b3 := ⟨_, rfl⟩; rw [← hk_law_number_b3]; simp only [deq_int, plain_int, wpSs, wpS, wpE, wpA, wpC, wpT, wpTss, wpI, wpAnds, wpOrs, bindT, getS, setS, setsS, outS, slD, Pr.w, Pr.aw, pAdd, pInt, pMul, pCmp, pEq, pIsN, pLt, pLen, pAbs, pNeg, pInt1, pBool, pIsi, pIx, pSlc, pTupD, pLstD, pTupOf, pLstOf, pSum, pBs, pTwo, isNon, isIns, isTp, truth, items, ent, List.replicate, List.cons_append, List.nil_append, Rv.d, bodyP, at0, at1, at2, at3, at4, atm1, ixn1, ixn2, ixn3, set51, set52, set53, get51, D.int.injEq, D.bl.injEq, D.tup.injEq, D.lst.injEq, D.str.injEq, Sl.own.injEq, Sl.val.injEq, Rv.v.injEq, Rv.fr.injEq, Option.some.injEq, List.cons.injEq, exists_eq_left, exists_eq_left', exists_eq, exists_eq', exists_const, exists_and_left, true_and, and_true, true_implies, forall_const, Bool.false_eq_true, Bool.true_eq_false, false_implies, implies_true, decide_eq_true_eq, decide_eq_false_iff_not, Nat.reduceSub, Nat.reduceAdd, id_eq, List.length_cons, List.length_nil, List.length_append, reduceCtorEq, and_self, ite_true, ite_false, if_true, if_false, Bool.not_true, Bool.not_false, Bool.not_eq_true', Bool.not_eq_false', outP1, outP2, outP3, noOwn, wipeS, restS, false_and, and_false, eq_self_iff_true, not_true_eq_false, not_false_eq_true, decide_true, decide_false]
  refine ⟨fun h => ?_, fun h => ?_⟩
  · (try subst hk_law_number_b2t0); unfold law_number.b2t0; simp only [G_num.s0, wpSs, wpS, wpE, wpA, wpC, wpT, wpTss, wpI, wpAnds, wpOrs, bindT, getS, setS, setsS, outS, slD, Pr.w, Pr.aw, pAdd, pInt, pMul, pCmp, pEq, pIsN, pLt, pLen, pAbs, pNeg, pInt1, pBool, pIsi, pIx, pSlc, pTupD, pLstD, pTupOf, pLstOf, pSum, pBs, pTwo, isNon, isIns, isTp, truth, items, ent, List.replicate, List.cons_append, List.nil_append, Rv.d, bodyP, at0, at1, at2, at3, at4, atm1, ixn1, ixn2, ixn3, set51, set52, set53, get51, D.int.injEq, D.bl.injEq, D.tup.injEq, D.lst.injEq, D.str.injEq, Sl.own.injEq, Sl.val.injEq, Rv.v.injEq, Rv.fr.injEq, Option.some.injEq, List.cons.injEq, exists_eq_left, exists_eq_left', exists_eq, exists_eq', exists_const, exists_and_left, true_and, and_true, true_implies, forall_const, Bool.false_eq_true, Bool.true_eq_false, false_implies, implies_true, decide_eq_true_eq, decide_eq_false_iff_not, Nat.reduceSub, Nat.reduceAdd, id_eq, List.length_cons, List.length_nil, List.length_append, reduceCtorEq, and_self, ite_true, ite_false, if_true, if_false, Bool.not_true, Bool.not_false, Bool.not_eq_true', Bool.not_eq_false', outP1, outP2, outP3, noOwn, wipeS, restS, false_and, and_false, eq_self_iff_true, not_true_eq_false, not_false_eq_true, decide_true, decide_false]
    refine ⟨d1, 1000, rfl, h1, by decide, by decide, fun d2 r h2 r0 r1 => ?_⟩
    (try simp only [wpSs, wpS, wpE, wpA, wpC, wpT, wpTss, wpI, wpAnds, wpOrs, bindT, getS, setS, setsS, outS, slD, Pr.w, Pr.aw, pAdd, pInt, pMul, pCmp, pEq, pIsN, pLt, pLen, pAbs, pNeg, pInt1, pBool, pIsi, pIx, pSlc, pTupD, pLstD, pTupOf, pLstOf, pSum, pBs, pTwo, isNon, isIns, isTp, truth, items, ent, List.replicate, List.cons_append, List.nil_append, Rv.d, bodyP, at0, at1, at2, at3, at4, atm1, ixn1, ixn2, ixn3, set51, set52, set53, get51, D.int.injEq, D.bl.injEq, D.tup.injEq, D.lst.injEq, D.str.injEq, Sl.own.injEq, Sl.val.injEq, Rv.v.injEq, Rv.fr.injEq, Option.some.injEq, List.cons.injEq, exists_eq_left, exists_eq_left', exists_eq, exists_eq', exists_const, exists_and_left, true_and, and_true, true_implies, forall_const, Bool.false_eq_true, Bool.true_eq_false, false_implies, implies_true, decide_eq_true_eq, decide_eq_false_iff_not, Nat.reduceSub, Nat.reduceAdd, id_eq, List.length_cons, List.length_nil, List.length_append, reduceCtorEq, and_self, ite_true, ite_false, if_true, if_false, Bool.not_true, Bool.not_false, Bool.not_eq_true', Bool.not_eq_false', outP1, outP2, outP3, noOwn, wipeS, restS, false_and, and_false, eq_self_iff_true, not_true_eq_false, not_false_eq_true, decide_true, decide_false])
    exact hq d2 r h2 r0 (Int.lt_trans r1 (by decide))
  (try subst hk_law_number_b3); unfold law_number.b3; obtain ⟨k_law_number_b3t0, hk_law_number_b3t0⟩ : ∃ k, k = law_number.b3t0 := ⟨_, rfl⟩; rw [← hk_law_number_b3t0]; obtain ⟨k_law_number_b4, hk_law_number_b4⟩ : ∃ k, k = law_number.b4 := ⟨_, rfl⟩; rw [← hk_law_number_b4]; simp only [deq_int, plain_int, wpSs, wpS, wpE, wpA, wpC, wpT, wpTss, wpI, wpAnds, wpOrs, bindT, getS, setS, setsS, outS, slD, Pr.w, Pr.aw, pAdd, pInt, pMul, pCmp, pEq, pIsN, pLt, pLen, pAbs, pNeg, pInt1, pBool, pIsi, pIx, pSlc, pTupD, pLstD, pTupOf, pLstOf, pSum, pBs, pTwo, isNon, isIns, isTp, truth, items, ent, List.replicate, List.cons_append, List.nil_append, Rv.d, bodyP, at0, at1, at2, at3, at4, atm1, ixn1, ixn2, ixn3, set51, set52, set53, get51, D.int.injEq, D.bl.injEq, D.tup.injEq, D.lst.injEq, D.str.injEq, Sl.own.injEq, Sl.val.injEq, Rv.v.injEq, Rv.fr.injEq, Option.some.injEq, List.cons.injEq, exists_eq_left, exists_eq_left', exists_eq, exists_eq', exists_const, exists_and_left, true_and, and_true, true_implies, forall_const, Bool.false_eq_true, Bool.true_eq_false, false_implies, implies_true, decide_eq_true_eq, decide_eq_false_iff_not, Nat.reduceSub, Nat.reduceAdd, id_eq, List.length_cons, List.length_nil, List.length_append, reduceCtorEq, and_self, ite_true, ite_false, if_true, if_false, Bool.not_true, Bool.not_false, Bool.not_eq_true', Bool.not_eq_false', outP1, outP2, outP3, noOwn, wipeS, restS, false_and, and_false, eq_self_iff_true, not_true_eq_false, not_false_eq_true, decide_true, decide_false]
  refine ⟨fun h => ?_, fun h => ?_⟩
  · (try subst hk_law_number_b3t0); unfold law_number.b3t0; simp only [G_num.s0, wpSs, wpS, wpE, wpA, wpC, wpT, wpTss, wpI, wpAnds, wpOrs, bindT, getS, setS, setsS, outS, slD, Pr.w, Pr.aw, pAdd, pInt, pMul, pCmp, pEq, pIsN, pLt, pLen, pAbs, pNeg, pInt1, pBool, pIsi, pIx, pSlc, pTupD, pLstD, pTupOf, pLstOf, pSum, pBs, pTwo, isNon, isIns, isTp, truth, items, ent, List.replicate, List.cons_append, List.nil_append, Rv.d, bodyP, at0, at1, at2, at3, at4, atm1, ixn1, ixn2, ixn3, set51, set52, set53, get51, D.int.injEq, D.bl.injEq, D.tup.injEq, D.lst.injEq, D.str.injEq, Sl.own.injEq, Sl.val.injEq, Rv.v.injEq, Rv.fr.injEq, Option.some.injEq, List.cons.injEq, exists_eq_left, exists_eq_left', exists_eq, exists_eq', exists_const, exists_and_left, true_and, and_true, true_implies, forall_const, Bool.false_eq_true, Bool.true_eq_false, false_implies, implies_true, decide_eq_true_eq, decide_eq_false_iff_not, Nat.reduceSub, Nat.reduceAdd, id_eq, List.length_cons, List.length_nil, List.length_append, reduceCtorEq, and_self, ite_true, ite_false, if_true, if_false, Bool.not_true, Bool.not_false, Bool.not_eq_true', Bool.not_eq_false', outP1, outP2, outP3, noOwn, wipeS, restS, false_and, and_false, eq_self_iff_true, not_true_eq_false, not_false_eq_true, decide_true, decide_false]
    refine ⟨d1, 1000000, rfl, h1, by decide, by decide, fun d2 r h2 r0 r1 => ?_⟩
    (try simp only [G_num.s0, wpSs, wpS, wpE, wpA, wpC, wpT, wpTss, wpI, wpAnds, wpOrs, bindT, getS, setS, setsS, outS, slD, Pr.w, Pr.aw, pAdd, pInt, pMul, pCmp, pEq, pIsN, pLt, pLen, pAbs, pNeg, pInt1, pBool, pIsi, pIx, pSlc, pTupD, pLstD, pTupOf, pLstOf, pSum, pBs, pTwo, isNon, isIns, isTp, truth, items, ent, List.replicate, List.cons_append, List.nil_append, Rv.d, bodyP, at0, at1, at2, at3, at4, atm1, ixn1, ixn2, ixn3, set51, set52, set53, get51, D.int.injEq, D.bl.injEq, D.tup.injEq, D.lst.injEq, D.str.injEq, Sl.own.injEq, Sl.val.injEq, Rv.v.injEq, Rv.fr.injEq, Option.some.injEq, List.cons.injEq, exists_eq_left, exists_eq_left', exists_eq, exists_eq', exists_const, exists_and_left, true_and, and_true, true_implies, forall_const, Bool.false_eq_true, Bool.true_eq_false, false_implies, implies_true, decide_eq_true_eq, decide_eq_false_iff_not, Nat.reduceSub, Nat.reduceAdd, id_eq, List.length_cons, List.length_nil, List.length_append, reduceCtorEq, and_self, ite_true, ite_false, if_true, if_false, Bool.not_true, Bool.not_false, Bool.not_eq_true', Bool.not_eq_false', outP1, outP2, outP3, noOwn, wipeS, restS, false_and, and_false, eq_self_iff_true, not_true_eq_false, not_false_eq_true, decide_true, decide_false])
    refine ⟨mulOk_r (by decide), d2, 1000000, rfl, h2, by decide, by decide, fun d3 r' h3 r0' r1' => ?_⟩
    (try simp only [wpSs, wpS, wpE, wpA, wpC, wpT, wpTss, wpI, wpAnds, wpOrs, bindT, getS, setS, setsS, outS, slD, Pr.w, Pr.aw, pAdd, pInt, pMul, pCmp, pEq, pIsN, pLt, pLen, pAbs, pNeg, pInt1, pBool, pIsi, pIx, pSlc, pTupD, pLstD, pTupOf, pLstOf, pSum, pBs, pTwo, isNon, isIns, isTp, truth, items, ent, List.replicate, List.cons_append, List.nil_append, Rv.d, bodyP, at0, at1, at2, at3, at4, atm1, ixn1, ixn2, ixn3, set51, set52, set53, get51, D.int.injEq, D.bl.injEq, D.tup.injEq, D.lst.injEq, D.str.injEq, Sl.own.injEq, Sl.val.injEq, Rv.v.injEq, Rv.fr.injEq, Option.some.injEq, List.cons.injEq, exists_eq_left, exists_eq_left', exists_eq, exists_eq', exists_const, exists_and_left, true_and, and_true, true_implies, forall_const, Bool.false_eq_true, Bool.true_eq_false, false_implies, implies_true, decide_eq_true_eq, decide_eq_false_iff_not, Nat.reduceSub, Nat.reduceAdd, id_eq, List.length_cons, List.length_nil, List.length_append, reduceCtorEq, and_self, ite_true, ite_false, if_true, if_false, Bool.not_true, Bool.not_false, Bool.not_eq_true', Bool.not_eq_false', outP1, outP2, outP3, noOwn, wipeS, restS, false_and, and_false, eq_self_iff_true, not_true_eq_false, not_false_eq_true, decide_true, decide_false])
    refine hq d3 _ h3 (by omega) ?_
    have : r * 1000003 + r' < 2000000000000 := by omega
    exact Int.lt_trans this (by decide)
  (try subst hk_law_number_b4); unfold law_number.b4; obtain ⟨k_law_number_b5, hk_law_number_b5⟩ : ∃ k, k = law_number.b5 := ⟨_, rfl⟩; rw [← hk_law_number_b5]; simp only [wpSs, wpS, wpE, wpA, wpC, wpT, wpTss, wpI, wpAnds, wpOrs, bindT, getS, setS, setsS, outS, slD, Pr.w, Pr.aw, pAdd, pInt, pMul, pCmp, pEq, pIsN, pLt, pLen, pAbs, pNeg, pInt1, pBool, pIsi, pIx, pSlc, pTupD, pLstD, pTupOf, pLstOf, pSum, pBs, pTwo, isNon, isIns, isTp, truth, items, ent, List.replicate, List.cons_append, List.nil_append, Rv.d, bodyP, at0, at1, at2, at3, at4, atm1, ixn1, ixn2, ixn3, set51, set52, set53, get51, D.int.injEq, D.bl.injEq, D.tup.injEq, D.lst.injEq, D.str.injEq, Sl.own.injEq, Sl.val.injEq, Rv.v.injEq, Rv.fr.injEq, Option.some.injEq, List.cons.injEq, exists_eq_left, exists_eq_left', exists_eq, exists_eq', exists_const, exists_and_left, true_and, and_true, true_implies, forall_const, Bool.false_eq_true, Bool.true_eq_false, false_implies, implies_true, decide_eq_true_eq, decide_eq_false_iff_not, Nat.reduceSub, Nat.reduceAdd, id_eq, List.length_cons, List.length_nil, List.length_append, reduceCtorEq, and_self, ite_true, ite_false, if_true, if_false, Bool.not_true, Bool.not_false, Bool.not_eq_true', Bool.not_eq_false', outP1, outP2, outP3, noOwn, wipeS, restS, false_and, and_false, eq_self_iff_true, not_true_eq_false, not_false_eq_true, decide_true, decide_false]
  (try subst hk_law_number_b5); unfold law_number.b5; obtain ⟨k_law_number_b5l0, hk_law_number_b5l0⟩ : ∃ k, k = law_number.b5l0 := ⟨_, rfl⟩; rw [← hk_law_number_b5l0]; obtain ⟨k_law_number_b6, hk_law_number_b6⟩ : ∃ k, k = law_number.b6 := ⟨_, rfl⟩; rw [← hk_law_number_b6]; simp only [G_num.s0, wpSs, wpS, wpE, wpA, wpC, wpT, wpTss, wpI, wpAnds, wpOrs, bindT, getS, setS, setsS, outS, slD, Pr.w, Pr.aw, pAdd, pInt, pMul, pCmp, pEq, pIsN, pLt, pLen, pAbs, pNeg, pInt1, pBool, pIsi, pIx, pSlc, pTupD, pLstD, pTupOf, pLstOf, pSum, pBs, pTwo, isNon, isIns, isTp, truth, items, ent, List.replicate, List.cons_append, List.nil_append, Rv.d, bodyP, at0, at1, at2, at3, at4, atm1, ixn1, ixn2, ixn3, set51, set52, set53, get51, D.int.injEq, D.bl.injEq, D.tup.injEq, D.lst.injEq, D.str.injEq, Sl.own.injEq, Sl.val.injEq, Rv.v.injEq, Rv.fr.injEq, Option.some.injEq, List.cons.injEq, exists_eq_left, exists_eq_left', exists_eq, exists_eq', exists_const, exists_and_left, true_and, and_true, true_implies, forall_const, Bool.false_eq_true, Bool.true_eq_false, false_implies, implies_true, decide_eq_true_eq, decide_eq_false_iff_not, Nat.reduceSub, Nat.reduceAdd, id_eq, List.length_cons, List.length_nil, List.length_append, reduceCtorEq, and_self, ite_true, ite_false, if_true, if_false, Bool.not_true, Bool.not_false, Bool.not_eq_true', Bool.not_eq_false', outP1, outP2, outP3, noOwn, wipeS, restS, false_and, and_false, eq_self_iff_true, not_true_eq_false, not_false_eq_true, decide_true, decide_false]
  refine ⟨d1, 6, rfl, h1, by decide, by decide, fun d2 n h2 n0 n1 => ?_⟩
  (try simp only [wpSs, wpS, wpE, wpA, wpC, wpT, wpTss, wpI, wpAnds, wpOrs, bindT, getS, setS, setsS, outS, slD, Pr.w, Pr.aw, pAdd, pInt, pMul, pCmp, pEq, pIsN, pLt, pLen, pAbs, pNeg, pInt1, pBool, pIsi, pIx, pSlc, pTupD, pLstD, pTupOf, pLstOf, pSum, pBs, pTwo, isNon, isIns, isTp, truth, items, ent, List.replicate, List.cons_append, List.nil_append, Rv.d, bodyP, at0, at1, at2, at3, at4, atm1, ixn1, ixn2, ixn3, set51, set52, set53, get51, D.int.injEq, D.bl.injEq, D.tup.injEq, D.lst.injEq, D.str.injEq, Sl.own.injEq, Sl.val.injEq, Rv.v.injEq, Rv.fr.injEq, Option.some.injEq, List.cons.injEq, exists_eq_left, exists_eq_left', exists_eq, exists_eq', exists_const, exists_and_left, true_and, and_true, true_implies, forall_const, Bool.false_eq_true, Bool.true_eq_false, false_implies, implies_true, decide_eq_true_eq, decide_eq_false_iff_not, Nat.reduceSub, Nat.reduceAdd, id_eq, List.length_cons, List.length_nil, List.length_append, reduceCtorEq, and_self, ite_true, ite_false, if_true, if_false, Bool.not_true, Bool.not_false, Bool.not_eq_true', Bool.not_eq_false', outP1, outP2, outP3, noOwn, wipeS, restS, false_and, and_false, eq_self_iff_true, not_true_eq_false, not_false_eq_true, decide_true, decide_false])
  refine ⟨⟨Int.le_trans (by decide) (show (0 : Int) ≤ 1 + n by omega), Int.lt_trans (show 1 + n < 100 by omega) (by decide)⟩, ?_⟩
  have hlen : (rngD 0 (1 + n).toNat).length ≤ 6 := by simp [rngD]; omega
  refine forL_of (fun rest env => ∃ d3 f x, env = [.own d3, .val (.int w), .val (.int f), x] ∧ dO d3 ∧ rest.length ≤ 6 ∧ 0 ≤ f ∧ f < 1000000 ^ (6 - rest.length)) (fun env hi => ?_) (fun d rest env hi R hR => ?_) _ _ ⟨d2, 0, .un, rfl, h2, hlen, by decide, ?_⟩
  · obtain ⟨d3, f, x, rfl, h3, _, f0, f1⟩ := hi
    (try subst hk_law_number_b6); unfold law_number.b6; simp only [wpSs, wpS, wpE, wpA, wpC, wpT, wpTss, wpI, wpAnds, wpOrs, bindT, getS, setS, setsS, outS, slD, Pr.w, Pr.aw, pAdd, pInt, pMul, pCmp, pEq, pIsN, pLt, pLen, pAbs, pNeg, pInt1, pBool, pIsi, pIx, pSlc, pTupD, pLstD, pTupOf, pLstOf, pSum, pBs, pTwo, isNon, isIns, isTp, truth, items, ent, List.replicate, List.cons_append, List.nil_append, Rv.d, bodyP, at0, at1, at2, at3, at4, atm1, ixn1, ixn2, ixn3, set51, set52, set53, get51, D.int.injEq, D.bl.injEq, D.tup.injEq, D.lst.injEq, D.str.injEq, Sl.own.injEq, Sl.val.injEq, Rv.v.injEq, Rv.fr.injEq, Option.some.injEq, List.cons.injEq, exists_eq_left, exists_eq_left', exists_eq, exists_eq', exists_const, exists_and_left, true_and, and_true, true_implies, forall_const, Bool.false_eq_true, Bool.true_eq_false, false_implies, implies_true, decide_eq_true_eq, decide_eq_false_iff_not, Nat.reduceSub, Nat.reduceAdd, id_eq, List.length_cons, List.length_nil, List.length_append, reduceCtorEq, and_self, ite_true, ite_false, if_true, if_false, Bool.not_true, Bool.not_false, Bool.not_eq_true', Bool.not_eq_false', outP1, outP2, outP3, noOwn, wipeS, restS, false_and, and_false, eq_self_iff_true, not_true_eq_false, not_false_eq_true, decide_true, decide_false]
    exact hq d3 f h3 f0 (Int.lt_trans f1 (by decide))
  · obtain ⟨d3, f, x, rfl, h3, hl, f0, f1⟩ := hi
    (try subst hk_law_number_b5l0); unfold law_number.b5l0; simp only [G_num.s0, wpSs, wpS, wpE, wpA, wpC, wpT, wpTss, wpI, wpAnds, wpOrs, bindT, getS, setS, setsS, outS, slD, Pr.w, Pr.aw, pAdd, pInt, pMul, pCmp, pEq, pIsN, pLt, pLen, pAbs, pNeg, pInt1, pBool, pIsi, pIx, pSlc, pTupD, pLstD, pTupOf, pLstOf, pSum, pBs, pTwo, isNon, isIns, isTp, truth, items, ent, List.replicate, List.cons_append, List.nil_append, Rv.d, bodyP, at0, at1, at2, at3, at4, atm1, ixn1, ixn2, ixn3, set51, set52, set53, get51, D.int.injEq, D.bl.injEq, D.tup.injEq, D.lst.injEq, D.str.injEq, Sl.own.injEq, Sl.val.injEq, Rv.v.injEq, Rv.fr.injEq, Option.some.injEq, List.cons.injEq, exists_eq_left, exists_eq_left', exists_eq, exists_eq', exists_const, exists_and_left, true_and, and_true, true_implies, forall_const, Bool.false_eq_true, Bool.true_eq_false, false_implies, implies_true, decide_eq_true_eq, decide_eq_false_iff_not, Nat.reduceSub, Nat.reduceAdd, id_eq, List.length_cons, List.length_nil, List.length_append, reduceCtorEq, and_self, ite_true, ite_false, if_true, if_false, Bool.not_true, Bool.not_false, Bool.not_eq_true', Bool.not_eq_false', outP1, outP2, outP3, noOwn, wipeS, restS, false_and, and_false, eq_self_iff_true, not_true_eq_false, not_false_eq_true, decide_true, decide_false]
    refine ⟨mulOk_r (by decide), d3, 1000000, rfl, h3, by decide, by decide, fun d4 r h4 r0 r1 => ?_⟩
    (try simp only [wpSs, wpS, wpE, wpA, wpC, wpT, wpTss, wpI, wpAnds, wpOrs, bindT, getS, setS, setsS, outS, slD, Pr.w, Pr.aw, pAdd, pInt, pMul, pCmp, pEq, pIsN, pLt, pLen, pAbs, pNeg, pInt1, pBool, pIsi, pIx, pSlc, pTupD, pLstD, pTupOf, pLstOf, pSum, pBs, pTwo, isNon, isIns, isTp, truth, items, ent, List.replicate, List.cons_append, List.nil_append, Rv.d, bodyP, at0, at1, at2, at3, at4, atm1, ixn1, ixn2, ixn3, set51, set52, set53, get51, D.int.injEq, D.bl.injEq, D.tup.injEq, D.lst.injEq, D.str.injEq, Sl.own.injEq, Sl.val.injEq, Rv.v.injEq, Rv.fr.injEq, Option.some.injEq, List.cons.injEq, exists_eq_left, exists_eq_left', exists_eq, exists_eq', exists_const, exists_and_left, true_and, and_true, true_implies, forall_const, Bool.false_eq_true, Bool.true_eq_false, false_implies, implies_true, decide_eq_true_eq, decide_eq_false_iff_not, Nat.reduceSub, Nat.reduceAdd, id_eq, List.length_cons, List.length_nil, List.length_append, reduceCtorEq, and_self, ite_true, ite_false, if_true, if_false, Bool.not_true, Bool.not_false, Bool.not_eq_true', Bool.not_eq_false', outP1, outP2, outP3, noOwn, wipeS, restS, false_and, and_false, eq_self_iff_true, not_true_eq_false, not_false_eq_true, decide_true, decide_false])
    rw [List.length_cons] at hl f1
    refine hR _ ⟨d4, _, _, rfl, h4, by omega, by omega, ?_⟩
    have e : 6 - rest.length = (6 - (rest.length + 1)) + 1 := by omega
    rw [e, Int.pow_succ]
    omega
  · exact Int.pow_pos (by decide)
/-! ### rows -/
def rw' (ns : List Int) : D := .tup (ns.map .int)
def ls (ns : List Int) : D := .lst (ns.map .int)
def zipP (as bs : List Int) : List D := (as.zip bs).map fun p => .tup [.int p.1, .int p.2]
theorem zip_ints (as bs : List Int) : zipD (as.map .int) (bs.map .int) = zipP as bs := by
  unfold zipD zipP
  rw [List.zip_map, List.map_map]
  rfl
theorem at_row {ns : List Int} {k : Nat} (h : k < ns.length) : atI (ns.map D.int) (0 + (k : Int)) = some (.int (ns.getD k 0)) := by
  rw [Int.zero_add]
  refine atI_nat ?_
  rw [List.getElem?_map, List.getElem?_eq_getElem h, List.getD_eq_getElem?_getD, List.getElem?_eq_getElem h]
  rfl
/-- a comprehension whose turns give g, or nothing -/
theorem comp_all {body : D → Pd.Env → (Option D → Pd.Env → Prop) → Prop} {Q : List D → Pd.Env → Prop} {E0 : Pd.Env} (p : D → Bool) (g : D → D) : ∀ (ds acc : List D), acc.length + ds.length ≤ LINE →
    (∀ d ∈ ds, ∀ R, (p d = true → R (some (g d)) E0) → (p d = false → R none E0) → body d E0 R) → Q (acc ++ (ds.filter p).map g) E0 → compL body ds acc E0 Q
  | [], acc, hl, _, hq => by
    rw [compL]
    simpa using hq
  | d :: ds, acc, hl, h, hq => by
    rw [compL]
    rw [List.length_cons] at hl
    refine h d List.mem_cons_self _ (fun hp => ?_) fun hp => ?_
    · refine ⟨by omega, comp_all p g ds _ (by simp only [List.length_append, List.length_singleton]; omega) (fun x hx => h x (List.mem_cons_of_mem _ hx)) ?_⟩
      rw [List.filter_cons_of_pos hp, List.map_cons] at hq
      simpa using hq
    · refine comp_all p g ds acc (by omega) (fun x hx => h x (List.mem_cons_of_mem _ hx)) ?_
      rw [List.filter_cons_of_neg (by simp [hp])] at hq
      exact hq
theorem comp_map {body : D → Pd.Env → (Option D → Pd.Env → Prop) → Prop} {Q : List D → Pd.Env → Prop} {E0 : Pd.Env} (g : D → D) (ds : List D) (hl : ds.length ≤ LINE)
    (h : ∀ d ∈ ds, ∀ R : Option D → Pd.Env → Prop, R (some (g d)) E0 → body d E0 R) (hq : Q (ds.map g) E0) : compL body ds [] E0 Q :=
  comp_all (fun _ => true) g ds [] (by simpa using hl) (fun d hd R h1 _ => h d hd R (h1 rfl)) (by rw [List.filter_eq_self.mpr fun _ _ => rfl]; exact hq)
/-- what the law's rows hold -/
def Ok (ns : List Int) : Prop := ns.length ≤ 40 ∧ ∀ x ∈ ns, Bt 200 x
theorem le_line {n : Nat} (h : n ≤ 1000) : n ≤ LINE := by
  have : 1000 ≤ LINE := by decide
  omega
def sp_zip (f : Int → Int → Int) : DSp := fun ss Q _ => ∃ as bs : List Int, ss = [.val (rw' as), .val (rw' bs)] ∧ Ok as ∧ Ok bs ∧ Q (.v (rw' (List.zipWith f as bs))) [.un, .un]
theorem zip_len {as bs : List Int} (h : Ok as) : (zipP as bs).length ≤ LINE := by
  have := h.1
  refine le_line ?_
  unfold zipP
  rw [List.length_map, List.length_zip]
  omega
def pairF (f : Int → Int → Int) : D → D
  | .tup [.int a, .int b] => .int (f a b)
  | d => d
theorem zip_map {f : Int → Int → Int} : ∀ {as bs : List Int}, (zipP as bs).map (pairF f) = (List.zipWith f as bs).map .int
  | [], _ => by simp [zipP]
  | _ :: _, [] => by simp [zipP]
  | a :: as, b :: bs => by
    have := zip_map (f := f) (as := as) (bs := bs)
    simp only [zipP, List.zip_cons_cons, List.map_cons, List.zipWith_cons_cons] at this ⊢
    rw [this]
    rfl
theorem zip_mem {as bs : List Int} {d : D} (h : d ∈ zipP as bs) : ∃ a b, d = .tup [.int a, .int b] ∧ a ∈ as ∧ b ∈ bs := by
  unfold zipP at h
  obtain ⟨p, hp, rfl⟩ := List.mem_map.mp h
  exact ⟨p.1, p.2, rfl, (List.of_mem_zip hp).1, (List.of_mem_zip hp).2⟩
theorem w_plus : ∀ ss Q E, ss.length = 2 → sp_zip (fun a b => a + b) ss Q E → wpSs [] plus_rows.b0 (ent ss 2) (bodyP ss Q E) := by
  rintro ss Q E - ⟨as, bs, rfl, ha, hb, hq⟩
  (try subst hk_plus_rows_b0); unfold plus_rows.b0; simp only [rw', wpSs, wpS, wpE, wpA, wpC, wpT, wpTss, wpI, wpAnds, wpOrs, bindT, getS, setS, setsS, outS, slD, Pr.w, Pr.aw, pAdd, pInt, pMul, pCmp, pEq, pIsN, pLt, pLen, pAbs, pNeg, pInt1, pBool, pIsi, pIx, pSlc, pTupD, pLstD, pTupOf, pLstOf, pSum, pBs, pTwo, isNon, isIns, isTp, truth, items, ent, List.replicate, List.cons_append, List.nil_append, Rv.d, bodyP, at0, at1, at2, at3, at4, atm1, ixn1, ixn2, ixn3, set51, set52, set53, get51, D.int.injEq, D.bl.injEq, D.tup.injEq, D.lst.injEq, D.str.injEq, Sl.own.injEq, Sl.val.injEq, Rv.v.injEq, Rv.fr.injEq, Option.some.injEq, List.cons.injEq, exists_eq_left, exists_eq_left', exists_eq, exists_eq', exists_const, exists_and_left, true_and, and_true, true_implies, forall_const, Bool.false_eq_true, Bool.true_eq_false, false_implies, implies_true, decide_eq_true_eq, decide_eq_false_iff_not, Nat.reduceSub, Nat.reduceAdd, id_eq, List.length_cons, List.length_nil, List.length_append, reduceCtorEq, and_self, ite_true, ite_false, if_true, if_false, Bool.not_true, Bool.not_false, Bool.not_eq_true', Bool.not_eq_false', outP1, outP2, outP3, noOwn, wipeS, restS, false_and, and_false, eq_self_iff_true, not_true_eq_false, not_false_eq_true, decide_true, decide_false]
  refine ⟨_, _, .inl ⟨rfl, rfl⟩, ?_⟩
  rw [zip_ints]
  refine comp_map (pairF fun a b => a + b) _ (zip_len ha) (fun d hd R hR => ?_) ?_
  · obtain ⟨a, b, rfl, _⟩ := zip_mem hd
    (try simp only [wpSs, wpS, wpE, wpA, wpC, wpT, wpTss, wpI, wpAnds, wpOrs, bindT, getS, setS, setsS, outS, slD, Pr.w, Pr.aw, pAdd, pInt, pMul, pCmp, pEq, pIsN, pLt, pLen, pAbs, pNeg, pInt1, pBool, pIsi, pIx, pSlc, pTupD, pLstD, pTupOf, pLstOf, pSum, pBs, pTwo, isNon, isIns, isTp, truth, items, ent, List.replicate, List.cons_append, List.nil_append, Rv.d, bodyP, at0, at1, at2, at3, at4, atm1, ixn1, ixn2, ixn3, set51, set52, set53, get51, D.int.injEq, D.bl.injEq, D.tup.injEq, D.lst.injEq, D.str.injEq, Sl.own.injEq, Sl.val.injEq, Rv.v.injEq, Rv.fr.injEq, Option.some.injEq, List.cons.injEq, exists_eq_left, exists_eq_left', exists_eq, exists_eq', exists_const, exists_and_left, true_and, and_true, true_implies, forall_const, Bool.false_eq_true, Bool.true_eq_false, false_implies, implies_true, decide_eq_true_eq, decide_eq_false_iff_not, Nat.reduceSub, Nat.reduceAdd, id_eq, List.length_cons, List.length_nil, List.length_append, reduceCtorEq, and_self, ite_true, ite_false, if_true, if_false, Bool.not_true, Bool.not_false, Bool.not_eq_true', Bool.not_eq_false', outP1, outP2, outP3, noOwn, wipeS, restS, false_and, and_false, eq_self_iff_true, not_true_eq_false, not_false_eq_true, decide_true, decide_false])
    exact hR
  · (try simp only [wpSs, wpS, wpE, wpA, wpC, wpT, wpTss, wpI, wpAnds, wpOrs, bindT, getS, setS, setsS, outS, slD, Pr.w, Pr.aw, pAdd, pInt, pMul, pCmp, pEq, pIsN, pLt, pLen, pAbs, pNeg, pInt1, pBool, pIsi, pIx, pSlc, pTupD, pLstD, pTupOf, pLstOf, pSum, pBs, pTwo, isNon, isIns, isTp, truth, items, ent, List.replicate, List.cons_append, List.nil_append, Rv.d, bodyP, at0, at1, at2, at3, at4, atm1, ixn1, ixn2, ixn3, set51, set52, set53, get51, D.int.injEq, D.bl.injEq, D.tup.injEq, D.lst.injEq, D.str.injEq, Sl.own.injEq, Sl.val.injEq, Rv.v.injEq, Rv.fr.injEq, Option.some.injEq, List.cons.injEq, exists_eq_left, exists_eq_left', exists_eq, exists_eq', exists_const, exists_and_left, true_and, and_true, true_implies, forall_const, Bool.false_eq_true, Bool.true_eq_false, false_implies, implies_true, decide_eq_true_eq, decide_eq_false_iff_not, Nat.reduceSub, Nat.reduceAdd, id_eq, List.length_cons, List.length_nil, List.length_append, reduceCtorEq, and_self, ite_true, ite_false, if_true, if_false, Bool.not_true, Bool.not_false, Bool.not_eq_true', Bool.not_eq_false', outP1, outP2, outP3, noOwn, wipeS, restS, false_and, and_false, eq_self_iff_true, not_true_eq_false, not_false_eq_true, decide_true, decide_false])
    rw [zip_map]
    exact hq
theorem w_less : ∀ ss Q E, ss.length = 2 → sp_zip (fun a b => a - b) ss Q E → wpSs [] less_rows.b0 (ent ss 2) (bodyP ss Q E) := by
  rintro ss Q E - ⟨as, bs, rfl, ha, hb, hq⟩
  (try subst hk_less_rows_b0); unfold less_rows.b0; simp only [rw', wpSs, wpS, wpE, wpA, wpC, wpT, wpTss, wpI, wpAnds, wpOrs, bindT, getS, setS, setsS, outS, slD, Pr.w, Pr.aw, pAdd, pInt, pMul, pCmp, pEq, pIsN, pLt, pLen, pAbs, pNeg, pInt1, pBool, pIsi, pIx, pSlc, pTupD, pLstD, pTupOf, pLstOf, pSum, pBs, pTwo, isNon, isIns, isTp, truth, items, ent, List.replicate, List.cons_append, List.nil_append, Rv.d, bodyP, at0, at1, at2, at3, at4, atm1, ixn1, ixn2, ixn3, set51, set52, set53, get51, D.int.injEq, D.bl.injEq, D.tup.injEq, D.lst.injEq, D.str.injEq, Sl.own.injEq, Sl.val.injEq, Rv.v.injEq, Rv.fr.injEq, Option.some.injEq, List.cons.injEq, exists_eq_left, exists_eq_left', exists_eq, exists_eq', exists_const, exists_and_left, true_and, and_true, true_implies, forall_const, Bool.false_eq_true, Bool.true_eq_false, false_implies, implies_true, decide_eq_true_eq, decide_eq_false_iff_not, Nat.reduceSub, Nat.reduceAdd, id_eq, List.length_cons, List.length_nil, List.length_append, reduceCtorEq, and_self, ite_true, ite_false, if_true, if_false, Bool.not_true, Bool.not_false, Bool.not_eq_true', Bool.not_eq_false', outP1, outP2, outP3, noOwn, wipeS, restS, false_and, and_false, eq_self_iff_true, not_true_eq_false, not_false_eq_true, decide_true, decide_false]
  refine ⟨_, _, .inl ⟨rfl, rfl⟩, ?_⟩
  rw [zip_ints]
  refine comp_map (pairF fun a b => a - b) _ (zip_len ha) (fun d hd R hR => ?_) ?_
  · obtain ⟨a, b, rfl, _⟩ := zip_mem hd
    (try simp only [wpSs, wpS, wpE, wpA, wpC, wpT, wpTss, wpI, wpAnds, wpOrs, bindT, getS, setS, setsS, outS, slD, Pr.w, Pr.aw, pAdd, pInt, pMul, pCmp, pEq, pIsN, pLt, pLen, pAbs, pNeg, pInt1, pBool, pIsi, pIx, pSlc, pTupD, pLstD, pTupOf, pLstOf, pSum, pBs, pTwo, isNon, isIns, isTp, truth, items, ent, List.replicate, List.cons_append, List.nil_append, Rv.d, bodyP, at0, at1, at2, at3, at4, atm1, ixn1, ixn2, ixn3, set51, set52, set53, get51, D.int.injEq, D.bl.injEq, D.tup.injEq, D.lst.injEq, D.str.injEq, Sl.own.injEq, Sl.val.injEq, Rv.v.injEq, Rv.fr.injEq, Option.some.injEq, List.cons.injEq, exists_eq_left, exists_eq_left', exists_eq, exists_eq', exists_const, exists_and_left, true_and, and_true, true_implies, forall_const, Bool.false_eq_true, Bool.true_eq_false, false_implies, implies_true, decide_eq_true_eq, decide_eq_false_iff_not, Nat.reduceSub, Nat.reduceAdd, id_eq, List.length_cons, List.length_nil, List.length_append, reduceCtorEq, and_self, ite_true, ite_false, if_true, if_false, Bool.not_true, Bool.not_false, Bool.not_eq_true', Bool.not_eq_false', outP1, outP2, outP3, noOwn, wipeS, restS, false_and, and_false, eq_self_iff_true, not_true_eq_false, not_false_eq_true, decide_true, decide_false])
    exact hR
  · (try simp only [wpSs, wpS, wpE, wpA, wpC, wpT, wpTss, wpI, wpAnds, wpOrs, bindT, getS, setS, setsS, outS, slD, Pr.w, Pr.aw, pAdd, pInt, pMul, pCmp, pEq, pIsN, pLt, pLen, pAbs, pNeg, pInt1, pBool, pIsi, pIx, pSlc, pTupD, pLstD, pTupOf, pLstOf, pSum, pBs, pTwo, isNon, isIns, isTp, truth, items, ent, List.replicate, List.cons_append, List.nil_append, Rv.d, bodyP, at0, at1, at2, at3, at4, atm1, ixn1, ixn2, ixn3, set51, set52, set53, get51, D.int.injEq, D.bl.injEq, D.tup.injEq, D.lst.injEq, D.str.injEq, Sl.own.injEq, Sl.val.injEq, Rv.v.injEq, Rv.fr.injEq, Option.some.injEq, List.cons.injEq, exists_eq_left, exists_eq_left', exists_eq, exists_eq', exists_const, exists_and_left, true_and, and_true, true_implies, forall_const, Bool.false_eq_true, Bool.true_eq_false, false_implies, implies_true, decide_eq_true_eq, decide_eq_false_iff_not, Nat.reduceSub, Nat.reduceAdd, id_eq, List.length_cons, List.length_nil, List.length_append, reduceCtorEq, and_self, ite_true, ite_false, if_true, if_false, Bool.not_true, Bool.not_false, Bool.not_eq_true', Bool.not_eq_false', outP1, outP2, outP3, noOwn, wipeS, restS, false_and, and_false, eq_self_iff_true, not_true_eq_false, not_false_eq_true, decide_true, decide_false])
    rw [zip_map]
    exact hq
def mn (a b : Int) : Int := if a < b then a else b
def mx (a b : Int) : Int := if b < a then a else b
theorem w_shared : ∀ ss Q E, ss.length = 2 → sp_zip mn ss Q E → wpSs [] shared.b0 (ent ss 2) (bodyP ss Q E) := by
  rintro ss Q E - ⟨as, bs, rfl, ha, hb, hq⟩
  (try subst hk_shared_b0); unfold shared.b0; simp only [rw', wpSs, wpS, wpE, wpA, wpC, wpT, wpTss, wpI, wpAnds, wpOrs, bindT, getS, setS, setsS, outS, slD, Pr.w, Pr.aw, pAdd, pInt, pMul, pCmp, pEq, pIsN, pLt, pLen, pAbs, pNeg, pInt1, pBool, pIsi, pIx, pSlc, pTupD, pLstD, pTupOf, pLstOf, pSum, pBs, pTwo, isNon, isIns, isTp, truth, items, ent, List.replicate, List.cons_append, List.nil_append, Rv.d, bodyP, at0, at1, at2, at3, at4, atm1, ixn1, ixn2, ixn3, set51, set52, set53, get51, D.int.injEq, D.bl.injEq, D.tup.injEq, D.lst.injEq, D.str.injEq, Sl.own.injEq, Sl.val.injEq, Rv.v.injEq, Rv.fr.injEq, Option.some.injEq, List.cons.injEq, exists_eq_left, exists_eq_left', exists_eq, exists_eq', exists_const, exists_and_left, true_and, and_true, true_implies, forall_const, Bool.false_eq_true, Bool.true_eq_false, false_implies, implies_true, decide_eq_true_eq, decide_eq_false_iff_not, Nat.reduceSub, Nat.reduceAdd, id_eq, List.length_cons, List.length_nil, List.length_append, reduceCtorEq, and_self, ite_true, ite_false, if_true, if_false, Bool.not_true, Bool.not_false, Bool.not_eq_true', Bool.not_eq_false', outP1, outP2, outP3, noOwn, wipeS, restS, false_and, and_false, eq_self_iff_true, not_true_eq_false, not_false_eq_true, decide_true, decide_false]
  refine ⟨_, _, .inl ⟨rfl, rfl⟩, ?_⟩
  rw [zip_ints]
  refine comp_map (pairF mn) _ (zip_len ha) (fun d hd R hR => ?_) ?_
  · obtain ⟨a, b, rfl, _⟩ := zip_mem hd
    (try simp only [wpSs, wpS, wpE, wpA, wpC, wpT, wpTss, wpI, wpAnds, wpOrs, bindT, getS, setS, setsS, outS, slD, Pr.w, Pr.aw, pAdd, pInt, pMul, pCmp, pEq, pIsN, pLt, pLen, pAbs, pNeg, pInt1, pBool, pIsi, pIx, pSlc, pTupD, pLstD, pTupOf, pLstOf, pSum, pBs, pTwo, isNon, isIns, isTp, truth, items, ent, List.replicate, List.cons_append, List.nil_append, Rv.d, bodyP, at0, at1, at2, at3, at4, atm1, ixn1, ixn2, ixn3, set51, set52, set53, get51, D.int.injEq, D.bl.injEq, D.tup.injEq, D.lst.injEq, D.str.injEq, Sl.own.injEq, Sl.val.injEq, Rv.v.injEq, Rv.fr.injEq, Option.some.injEq, List.cons.injEq, exists_eq_left, exists_eq_left', exists_eq, exists_eq', exists_const, exists_and_left, true_and, and_true, true_implies, forall_const, Bool.false_eq_true, Bool.true_eq_false, false_implies, implies_true, decide_eq_true_eq, decide_eq_false_iff_not, Nat.reduceSub, Nat.reduceAdd, id_eq, List.length_cons, List.length_nil, List.length_append, reduceCtorEq, and_self, ite_true, ite_false, if_true, if_false, Bool.not_true, Bool.not_false, Bool.not_eq_true', Bool.not_eq_false', outP1, outP2, outP3, noOwn, wipeS, restS, false_and, and_false, eq_self_iff_true, not_true_eq_false, not_false_eq_true, decide_true, decide_false])
    simp only [pairF, mn] at hR
    refine ⟨fun h => ?_, fun h => ?_⟩
    · rw [if_pos h] at hR; exact hR
    · rw [if_neg h] at hR; exact hR
  · (try simp only [wpSs, wpS, wpE, wpA, wpC, wpT, wpTss, wpI, wpAnds, wpOrs, bindT, getS, setS, setsS, outS, slD, Pr.w, Pr.aw, pAdd, pInt, pMul, pCmp, pEq, pIsN, pLt, pLen, pAbs, pNeg, pInt1, pBool, pIsi, pIx, pSlc, pTupD, pLstD, pTupOf, pLstOf, pSum, pBs, pTwo, isNon, isIns, isTp, truth, items, ent, List.replicate, List.cons_append, List.nil_append, Rv.d, bodyP, at0, at1, at2, at3, at4, atm1, ixn1, ixn2, ixn3, set51, set52, set53, get51, D.int.injEq, D.bl.injEq, D.tup.injEq, D.lst.injEq, D.str.injEq, Sl.own.injEq, Sl.val.injEq, Rv.v.injEq, Rv.fr.injEq, Option.some.injEq, List.cons.injEq, exists_eq_left, exists_eq_left', exists_eq, exists_eq', exists_const, exists_and_left, true_and, and_true, true_implies, forall_const, Bool.false_eq_true, Bool.true_eq_false, false_implies, implies_true, decide_eq_true_eq, decide_eq_false_iff_not, Nat.reduceSub, Nat.reduceAdd, id_eq, List.length_cons, List.length_nil, List.length_append, reduceCtorEq, and_self, ite_true, ite_false, if_true, if_false, Bool.not_true, Bool.not_false, Bool.not_eq_true', Bool.not_eq_false', outP1, outP2, outP3, noOwn, wipeS, restS, false_and, and_false, eq_self_iff_true, not_true_eq_false, not_false_eq_true, decide_true, decide_false])
    rw [zip_map]
    exact hq
theorem w_upper : ∀ ss Q E, ss.length = 2 → sp_zip mx ss Q E → wpSs [] upper.b0 (ent ss 2) (bodyP ss Q E) := by
  rintro ss Q E - ⟨as, bs, rfl, ha, hb, hq⟩
  (try subst hk_upper_b0); unfold upper.b0; simp only [rw', wpSs, wpS, wpE, wpA, wpC, wpT, wpTss, wpI, wpAnds, wpOrs, bindT, getS, setS, setsS, outS, slD, Pr.w, Pr.aw, pAdd, pInt, pMul, pCmp, pEq, pIsN, pLt, pLen, pAbs, pNeg, pInt1, pBool, pIsi, pIx, pSlc, pTupD, pLstD, pTupOf, pLstOf, pSum, pBs, pTwo, isNon, isIns, isTp, truth, items, ent, List.replicate, List.cons_append, List.nil_append, Rv.d, bodyP, at0, at1, at2, at3, at4, atm1, ixn1, ixn2, ixn3, set51, set52, set53, get51, D.int.injEq, D.bl.injEq, D.tup.injEq, D.lst.injEq, D.str.injEq, Sl.own.injEq, Sl.val.injEq, Rv.v.injEq, Rv.fr.injEq, Option.some.injEq, List.cons.injEq, exists_eq_left, exists_eq_left', exists_eq, exists_eq', exists_const, exists_and_left, true_and, and_true, true_implies, forall_const, Bool.false_eq_true, Bool.true_eq_false, false_implies, implies_true, decide_eq_true_eq, decide_eq_false_iff_not, Nat.reduceSub, Nat.reduceAdd, id_eq, List.length_cons, List.length_nil, List.length_append, reduceCtorEq, and_self, ite_true, ite_false, if_true, if_false, Bool.not_true, Bool.not_false, Bool.not_eq_true', Bool.not_eq_false', outP1, outP2, outP3, noOwn, wipeS, restS, false_and, and_false, eq_self_iff_true, not_true_eq_false, not_false_eq_true, decide_true, decide_false]
  refine ⟨_, _, .inl ⟨rfl, rfl⟩, ?_⟩
  rw [zip_ints]
  refine comp_map (pairF mx) _ (zip_len ha) (fun d hd R hR => ?_) ?_
  · obtain ⟨a, b, rfl, _⟩ := zip_mem hd
    (try simp only [wpSs, wpS, wpE, wpA, wpC, wpT, wpTss, wpI, wpAnds, wpOrs, bindT, getS, setS, setsS, outS, slD, Pr.w, Pr.aw, pAdd, pInt, pMul, pCmp, pEq, pIsN, pLt, pLen, pAbs, pNeg, pInt1, pBool, pIsi, pIx, pSlc, pTupD, pLstD, pTupOf, pLstOf, pSum, pBs, pTwo, isNon, isIns, isTp, truth, items, ent, List.replicate, List.cons_append, List.nil_append, Rv.d, bodyP, at0, at1, at2, at3, at4, atm1, ixn1, ixn2, ixn3, set51, set52, set53, get51, D.int.injEq, D.bl.injEq, D.tup.injEq, D.lst.injEq, D.str.injEq, Sl.own.injEq, Sl.val.injEq, Rv.v.injEq, Rv.fr.injEq, Option.some.injEq, List.cons.injEq, exists_eq_left, exists_eq_left', exists_eq, exists_eq', exists_const, exists_and_left, true_and, and_true, true_implies, forall_const, Bool.false_eq_true, Bool.true_eq_false, false_implies, implies_true, decide_eq_true_eq, decide_eq_false_iff_not, Nat.reduceSub, Nat.reduceAdd, id_eq, List.length_cons, List.length_nil, List.length_append, reduceCtorEq, and_self, ite_true, ite_false, if_true, if_false, Bool.not_true, Bool.not_false, Bool.not_eq_true', Bool.not_eq_false', outP1, outP2, outP3, noOwn, wipeS, restS, false_and, and_false, eq_self_iff_true, not_true_eq_false, not_false_eq_true, decide_true, decide_false])
    simp only [pairF, mx] at hR
    refine ⟨fun h => ?_, fun h => ?_⟩
    · rw [if_pos h] at hR; exact hR
    · rw [if_neg h] at hR; exact hR
  · (try simp only [wpSs, wpS, wpE, wpA, wpC, wpT, wpTss, wpI, wpAnds, wpOrs, bindT, getS, setS, setsS, outS, slD, Pr.w, Pr.aw, pAdd, pInt, pMul, pCmp, pEq, pIsN, pLt, pLen, pAbs, pNeg, pInt1, pBool, pIsi, pIx, pSlc, pTupD, pLstD, pTupOf, pLstOf, pSum, pBs, pTwo, isNon, isIns, isTp, truth, items, ent, List.replicate, List.cons_append, List.nil_append, Rv.d, bodyP, at0, at1, at2, at3, at4, atm1, ixn1, ixn2, ixn3, set51, set52, set53, get51, D.int.injEq, D.bl.injEq, D.tup.injEq, D.lst.injEq, D.str.injEq, Sl.own.injEq, Sl.val.injEq, Rv.v.injEq, Rv.fr.injEq, Option.some.injEq, List.cons.injEq, exists_eq_left, exists_eq_left', exists_eq, exists_eq', exists_const, exists_and_left, true_and, and_true, true_implies, forall_const, Bool.false_eq_true, Bool.true_eq_false, false_implies, implies_true, decide_eq_true_eq, decide_eq_false_iff_not, Nat.reduceSub, Nat.reduceAdd, id_eq, List.length_cons, List.length_nil, List.length_append, reduceCtorEq, and_self, ite_true, ite_false, if_true, if_false, Bool.not_true, Bool.not_false, Bool.not_eq_true', Bool.not_eq_false', outP1, outP2, outP3, noOwn, wipeS, restS, false_and, and_false, eq_self_iff_true, not_true_eq_false, not_false_eq_true, decide_true, decide_false])
    rw [zip_map]
    exact hq
def mulF (f : Int) : D → D
  | .int a => .int (a * f)
  | d => d
def sp_scaled : DSp := fun ss Q _ => ∃ (as : List Int) (f : Int), ss = [.val (rw' as), .val (.int f)] ∧ Ok as ∧ Bt 200 f ∧ Q (.v (rw' (as.map (· * f)))) [.un, .un]
theorem len_row {as : List Int} (h : Ok as) : (as.map D.int).length ≤ LINE := by
  have := h.1
  exact le_line (by rw [List.length_map]; omega)
theorem w_scaled : ∀ ss Q E, ss.length = 2 → sp_scaled ss Q E → wpSs [] scaled.b0 (ent ss 1) (bodyP ss Q E) := by
  rintro ss Q E - ⟨as, f, rfl, ha, hf, hq⟩
  (try subst hk_scaled_b0); unfold scaled.b0; simp only [rw', wpSs, wpS, wpE, wpA, wpC, wpT, wpTss, wpI, wpAnds, wpOrs, bindT, getS, setS, setsS, outS, slD, Pr.w, Pr.aw, pAdd, pInt, pMul, pCmp, pEq, pIsN, pLt, pLen, pAbs, pNeg, pInt1, pBool, pIsi, pIx, pSlc, pTupD, pLstD, pTupOf, pLstOf, pSum, pBs, pTwo, isNon, isIns, isTp, truth, items, ent, List.replicate, List.cons_append, List.nil_append, Rv.d, bodyP, at0, at1, at2, at3, at4, atm1, ixn1, ixn2, ixn3, set51, set52, set53, get51, D.int.injEq, D.bl.injEq, D.tup.injEq, D.lst.injEq, D.str.injEq, Sl.own.injEq, Sl.val.injEq, Rv.v.injEq, Rv.fr.injEq, Option.some.injEq, List.cons.injEq, exists_eq_left, exists_eq_left', exists_eq, exists_eq', exists_const, exists_and_left, true_and, and_true, true_implies, forall_const, Bool.false_eq_true, Bool.true_eq_false, false_implies, implies_true, decide_eq_true_eq, decide_eq_false_iff_not, Nat.reduceSub, Nat.reduceAdd, id_eq, List.length_cons, List.length_nil, List.length_append, reduceCtorEq, and_self, ite_true, ite_false, if_true, if_false, Bool.not_true, Bool.not_false, Bool.not_eq_true', Bool.not_eq_false', outP1, outP2, outP3, noOwn, wipeS, restS, false_and, and_false, eq_self_iff_true, not_true_eq_false, not_false_eq_true, decide_true, decide_false]
  refine comp_map (mulF f) _ (len_row ha) (fun d hd R hR => ?_) ?_
  · obtain ⟨a, h, rfl⟩ := List.mem_map.mp hd
    (try simp only [wpSs, wpS, wpE, wpA, wpC, wpT, wpTss, wpI, wpAnds, wpOrs, bindT, getS, setS, setsS, outS, slD, Pr.w, Pr.aw, pAdd, pInt, pMul, pCmp, pEq, pIsN, pLt, pLen, pAbs, pNeg, pInt1, pBool, pIsi, pIx, pSlc, pTupD, pLstD, pTupOf, pLstOf, pSum, pBs, pTwo, isNon, isIns, isTp, truth, items, ent, List.replicate, List.cons_append, List.nil_append, Rv.d, bodyP, at0, at1, at2, at3, at4, atm1, ixn1, ixn2, ixn3, set51, set52, set53, get51, D.int.injEq, D.bl.injEq, D.tup.injEq, D.lst.injEq, D.str.injEq, Sl.own.injEq, Sl.val.injEq, Rv.v.injEq, Rv.fr.injEq, Option.some.injEq, List.cons.injEq, exists_eq_left, exists_eq_left', exists_eq, exists_eq', exists_const, exists_and_left, true_and, and_true, true_implies, forall_const, Bool.false_eq_true, Bool.true_eq_false, false_implies, implies_true, decide_eq_true_eq, decide_eq_false_iff_not, Nat.reduceSub, Nat.reduceAdd, id_eq, List.length_cons, List.length_nil, List.length_append, reduceCtorEq, and_self, ite_true, ite_false, if_true, if_false, Bool.not_true, Bool.not_false, Bool.not_eq_true', Bool.not_eq_false', outP1, outP2, outP3, noOwn, wipeS, restS, false_and, and_false, eq_self_iff_true, not_true_eq_false, not_false_eq_true, decide_true, decide_false])
    exact ⟨(ha.2 a h).mulOk hf (by omega), hR⟩
  · (try simp only [wpSs, wpS, wpE, wpA, wpC, wpT, wpTss, wpI, wpAnds, wpOrs, bindT, getS, setS, setsS, outS, slD, Pr.w, Pr.aw, pAdd, pInt, pMul, pCmp, pEq, pIsN, pLt, pLen, pAbs, pNeg, pInt1, pBool, pIsi, pIx, pSlc, pTupD, pLstD, pTupOf, pLstOf, pSum, pBs, pTwo, isNon, isIns, isTp, truth, items, ent, List.replicate, List.cons_append, List.nil_append, Rv.d, bodyP, at0, at1, at2, at3, at4, atm1, ixn1, ixn2, ixn3, set51, set52, set53, get51, D.int.injEq, D.bl.injEq, D.tup.injEq, D.lst.injEq, D.str.injEq, Sl.own.injEq, Sl.val.injEq, Rv.v.injEq, Rv.fr.injEq, Option.some.injEq, List.cons.injEq, exists_eq_left, exists_eq_left', exists_eq, exists_eq', exists_const, exists_and_left, true_and, and_true, true_implies, forall_const, Bool.false_eq_true, Bool.true_eq_false, false_implies, implies_true, decide_eq_true_eq, decide_eq_false_iff_not, Nat.reduceSub, Nat.reduceAdd, id_eq, List.length_cons, List.length_nil, List.length_append, reduceCtorEq, and_self, ite_true, ite_false, if_true, if_false, Bool.not_true, Bool.not_false, Bool.not_eq_true', Bool.not_eq_false', outP1, outP2, outP3, noOwn, wipeS, restS, false_and, and_false, eq_self_iff_true, not_true_eq_false, not_false_eq_true, decide_true, decide_false])
    rw [List.map_map, show mulF f ∘ D.int = D.int ∘ (· * f) from rfl, ← List.map_map]
    exact hq
def sp_within : DSp := fun ss Q _ => ∃ as bs : List Int, ss = [.val (rw' as), .val (rw' bs)] ∧ Q (.v (.bl ((as.zip bs).all fun p => decide (p.1 ≤ p.2)))) [.un, .un]
theorem w_within : ∀ ss Q E, ss.length = 2 → sp_within ss Q E → wpSs [] within.b0 (ent ss 2) (bodyP ss Q E) := by
  rintro ss Q E - ⟨as, bs, rfl, hq⟩
  (try subst hk_within_b0); unfold within.b0; obtain ⟨k_within_b0l0, hk_within_b0l0⟩ : ∃ k, k = within.b0l0 := ⟨_, rfl⟩; rw [← hk_within_b0l0]; obtain ⟨k_within_b1, hk_within_b1⟩ : ∃ k, k = within.b1 := ⟨_, rfl⟩; rw [← hk_within_b1]; simp only [rw', wpSs, wpS, wpE, wpA, wpC, wpT, wpTss, wpI, wpAnds, wpOrs, bindT, getS, setS, setsS, outS, slD, Pr.w, Pr.aw, pAdd, pInt, pMul, pCmp, pEq, pIsN, pLt, pLen, pAbs, pNeg, pInt1, pBool, pIsi, pIx, pSlc, pTupD, pLstD, pTupOf, pLstOf, pSum, pBs, pTwo, isNon, isIns, isTp, truth, items, ent, List.replicate, List.cons_append, List.nil_append, Rv.d, bodyP, at0, at1, at2, at3, at4, atm1, ixn1, ixn2, ixn3, set51, set52, set53, get51, D.int.injEq, D.bl.injEq, D.tup.injEq, D.lst.injEq, D.str.injEq, Sl.own.injEq, Sl.val.injEq, Rv.v.injEq, Rv.fr.injEq, Option.some.injEq, List.cons.injEq, exists_eq_left, exists_eq_left', exists_eq, exists_eq', exists_const, exists_and_left, true_and, and_true, true_implies, forall_const, Bool.false_eq_true, Bool.true_eq_false, false_implies, implies_true, decide_eq_true_eq, decide_eq_false_iff_not, Nat.reduceSub, Nat.reduceAdd, id_eq, List.length_cons, List.length_nil, List.length_append, reduceCtorEq, and_self, ite_true, ite_false, if_true, if_false, Bool.not_true, Bool.not_false, Bool.not_eq_true', Bool.not_eq_false', outP1, outP2, outP3, noOwn, wipeS, restS, false_and, and_false, eq_self_iff_true, not_true_eq_false, not_false_eq_true, decide_true, decide_false]
  refine ⟨_, _, .inl ⟨rfl, rfl⟩, ?_⟩
  rw [zip_ints]
  unfold zipP
  refine forL_of (fun rest env => ∃ (ps : List (Int × Int)) (x y : Sl), rest = ps.map (fun p => .tup [.int p.1, .int p.2]) ∧ env = [.val (.tup (as.map .int)), .val (.tup (bs.map .int)), x, y] ∧ (ps.all fun p => decide (p.1 ≤ p.2)) = ((as.zip bs).all fun p => decide (p.1 ≤ p.2))) (fun env hi => ?_) (fun d rest env hi R hR => ?_) _ _ ⟨_, _, _, rfl, rfl, rfl⟩
  · obtain ⟨ps, x, y, e, rfl, h⟩ := hi
    have : ps = [] := by simpa using e.symm
    subst this
    (try subst hk_within_b1); unfold within.b1; simp only [wpSs, wpS, wpE, wpA, wpC, wpT, wpTss, wpI, wpAnds, wpOrs, bindT, getS, setS, setsS, outS, slD, Pr.w, Pr.aw, pAdd, pInt, pMul, pCmp, pEq, pIsN, pLt, pLen, pAbs, pNeg, pInt1, pBool, pIsi, pIx, pSlc, pTupD, pLstD, pTupOf, pLstOf, pSum, pBs, pTwo, isNon, isIns, isTp, truth, items, ent, List.replicate, List.cons_append, List.nil_append, Rv.d, bodyP, at0, at1, at2, at3, at4, atm1, ixn1, ixn2, ixn3, set51, set52, set53, get51, D.int.injEq, D.bl.injEq, D.tup.injEq, D.lst.injEq, D.str.injEq, Sl.own.injEq, Sl.val.injEq, Rv.v.injEq, Rv.fr.injEq, Option.some.injEq, List.cons.injEq, exists_eq_left, exists_eq_left', exists_eq, exists_eq', exists_const, exists_and_left, true_and, and_true, true_implies, forall_const, Bool.false_eq_true, Bool.true_eq_false, false_implies, implies_true, decide_eq_true_eq, decide_eq_false_iff_not, Nat.reduceSub, Nat.reduceAdd, id_eq, List.length_cons, List.length_nil, List.length_append, reduceCtorEq, and_self, ite_true, ite_false, if_true, if_false, Bool.not_true, Bool.not_false, Bool.not_eq_true', Bool.not_eq_false', outP1, outP2, outP3, noOwn, wipeS, restS, false_and, and_false, eq_self_iff_true, not_true_eq_false, not_false_eq_true, decide_true, decide_false]
    rw [← h] at hq
    exact hq
  · obtain ⟨ps, x, y, e, rfl, h⟩ := hi
    cases ps with
    | nil => cases e
    | cons p ps =>
      rw [List.map_cons] at e
      cases e
      (try subst hk_within_b0l0); unfold within.b0l0; obtain ⟨k_within_b0l0t0, hk_within_b0l0t0⟩ : ∃ k, k = within.b0l0t0 := ⟨_, rfl⟩; rw [← hk_within_b0l0t0]; simp only [wpSs, wpS, wpE, wpA, wpC, wpT, wpTss, wpI, wpAnds, wpOrs, bindT, getS, setS, setsS, outS, slD, Pr.w, Pr.aw, pAdd, pInt, pMul, pCmp, pEq, pIsN, pLt, pLen, pAbs, pNeg, pInt1, pBool, pIsi, pIx, pSlc, pTupD, pLstD, pTupOf, pLstOf, pSum, pBs, pTwo, isNon, isIns, isTp, truth, items, ent, List.replicate, List.cons_append, List.nil_append, Rv.d, bodyP, at0, at1, at2, at3, at4, atm1, ixn1, ixn2, ixn3, set51, set52, set53, get51, D.int.injEq, D.bl.injEq, D.tup.injEq, D.lst.injEq, D.str.injEq, Sl.own.injEq, Sl.val.injEq, Rv.v.injEq, Rv.fr.injEq, Option.some.injEq, List.cons.injEq, exists_eq_left, exists_eq_left', exists_eq, exists_eq', exists_const, exists_and_left, true_and, and_true, true_implies, forall_const, Bool.false_eq_true, Bool.true_eq_false, false_implies, implies_true, decide_eq_true_eq, decide_eq_false_iff_not, Nat.reduceSub, Nat.reduceAdd, id_eq, List.length_cons, List.length_nil, List.length_append, reduceCtorEq, and_self, ite_true, ite_false, if_true, if_false, Bool.not_true, Bool.not_false, Bool.not_eq_true', Bool.not_eq_false', outP1, outP2, outP3, noOwn, wipeS, restS, false_and, and_false, eq_self_iff_true, not_true_eq_false, not_false_eq_true, decide_true, decide_false]
      rw [List.all_cons] at h
      refine ⟨fun hh => ?_, fun hh => ?_⟩
      · (try subst hk_within_b0l0t0); unfold within.b0l0t0; simp only [wpSs, wpS, wpE, wpA, wpC, wpT, wpTss, wpI, wpAnds, wpOrs, bindT, getS, setS, setsS, outS, slD, Pr.w, Pr.aw, pAdd, pInt, pMul, pCmp, pEq, pIsN, pLt, pLen, pAbs, pNeg, pInt1, pBool, pIsi, pIx, pSlc, pTupD, pLstD, pTupOf, pLstOf, pSum, pBs, pTwo, isNon, isIns, isTp, truth, items, ent, List.replicate, List.cons_append, List.nil_append, Rv.d, bodyP, at0, at1, at2, at3, at4, atm1, ixn1, ixn2, ixn3, set51, set52, set53, get51, D.int.injEq, D.bl.injEq, D.tup.injEq, D.lst.injEq, D.str.injEq, Sl.own.injEq, Sl.val.injEq, Rv.v.injEq, Rv.fr.injEq, Option.some.injEq, List.cons.injEq, exists_eq_left, exists_eq_left', exists_eq, exists_eq', exists_const, exists_and_left, true_and, and_true, true_implies, forall_const, Bool.false_eq_true, Bool.true_eq_false, false_implies, implies_true, decide_eq_true_eq, decide_eq_false_iff_not, Nat.reduceSub, Nat.reduceAdd, id_eq, List.length_cons, List.length_nil, List.length_append, reduceCtorEq, and_self, ite_true, ite_false, if_true, if_false, Bool.not_true, Bool.not_false, Bool.not_eq_true', Bool.not_eq_false', outP1, outP2, outP3, noOwn, wipeS, restS, false_and, and_false, eq_self_iff_true, not_true_eq_false, not_false_eq_true, decide_true, decide_false]
        rw [← h, decide_eq_false (by omega), Bool.false_and] at hq
        exact hq
      · rw [decide_eq_true (by omega), Bool.true_and] at h
        exact hR _ ⟨ps, _, _, rfl, rfl, h⟩
def sp_meet : DSp := fun ss Q _ => ∃ as bs : List Int, ss = [.val (rw' as), .val (rw' bs)] ∧ Q (.v (.bl ((as.zip bs).any fun p => decide (0 < p.1) && decide (0 < p.2)))) [.un, .un]
theorem w_meet : ∀ ss Q E, ss.length = 2 → sp_meet ss Q E → wpSs [] meet.b0 (ent ss 2) (bodyP ss Q E) := by
  rintro ss Q E - ⟨as, bs, rfl, hq⟩
  (try subst hk_meet_b0); unfold meet.b0; obtain ⟨k_meet_b0l0, hk_meet_b0l0⟩ : ∃ k, k = meet.b0l0 := ⟨_, rfl⟩; rw [← hk_meet_b0l0]; obtain ⟨k_meet_b1, hk_meet_b1⟩ : ∃ k, k = meet.b1 := ⟨_, rfl⟩; rw [← hk_meet_b1]; simp only [rw', wpSs, wpS, wpE, wpA, wpC, wpT, wpTss, wpI, wpAnds, wpOrs, bindT, getS, setS, setsS, outS, slD, Pr.w, Pr.aw, pAdd, pInt, pMul, pCmp, pEq, pIsN, pLt, pLen, pAbs, pNeg, pInt1, pBool, pIsi, pIx, pSlc, pTupD, pLstD, pTupOf, pLstOf, pSum, pBs, pTwo, isNon, isIns, isTp, truth, items, ent, List.replicate, List.cons_append, List.nil_append, Rv.d, bodyP, at0, at1, at2, at3, at4, atm1, ixn1, ixn2, ixn3, set51, set52, set53, get51, D.int.injEq, D.bl.injEq, D.tup.injEq, D.lst.injEq, D.str.injEq, Sl.own.injEq, Sl.val.injEq, Rv.v.injEq, Rv.fr.injEq, Option.some.injEq, List.cons.injEq, exists_eq_left, exists_eq_left', exists_eq, exists_eq', exists_const, exists_and_left, true_and, and_true, true_implies, forall_const, Bool.false_eq_true, Bool.true_eq_false, false_implies, implies_true, decide_eq_true_eq, decide_eq_false_iff_not, Nat.reduceSub, Nat.reduceAdd, id_eq, List.length_cons, List.length_nil, List.length_append, reduceCtorEq, and_self, ite_true, ite_false, if_true, if_false, Bool.not_true, Bool.not_false, Bool.not_eq_true', Bool.not_eq_false', outP1, outP2, outP3, noOwn, wipeS, restS, false_and, and_false, eq_self_iff_true, not_true_eq_false, not_false_eq_true, decide_true, decide_false]
  refine ⟨_, _, .inl ⟨rfl, rfl⟩, ?_⟩
  rw [zip_ints]
  unfold zipP
  refine forL_of (fun rest env => ∃ (ps : List (Int × Int)) (x y : Sl), rest = ps.map (fun p => .tup [.int p.1, .int p.2]) ∧ env = [.val (.tup (as.map .int)), .val (.tup (bs.map .int)), x, y] ∧ (ps.any fun p => decide (0 < p.1) && decide (0 < p.2)) = ((as.zip bs).any fun p => decide (0 < p.1) && decide (0 < p.2))) (fun env hi => ?_) (fun d rest env hi R hR => ?_) _ _ ⟨_, _, _, rfl, rfl, rfl⟩
  · obtain ⟨ps, x, y, e, rfl, h⟩ := hi
    have : ps = [] := by simpa using e.symm
    subst this
    (try subst hk_meet_b1); unfold meet.b1; simp only [wpSs, wpS, wpE, wpA, wpC, wpT, wpTss, wpI, wpAnds, wpOrs, bindT, getS, setS, setsS, outS, slD, Pr.w, Pr.aw, pAdd, pInt, pMul, pCmp, pEq, pIsN, pLt, pLen, pAbs, pNeg, pInt1, pBool, pIsi, pIx, pSlc, pTupD, pLstD, pTupOf, pLstOf, pSum, pBs, pTwo, isNon, isIns, isTp, truth, items, ent, List.replicate, List.cons_append, List.nil_append, Rv.d, bodyP, at0, at1, at2, at3, at4, atm1, ixn1, ixn2, ixn3, set51, set52, set53, get51, D.int.injEq, D.bl.injEq, D.tup.injEq, D.lst.injEq, D.str.injEq, Sl.own.injEq, Sl.val.injEq, Rv.v.injEq, Rv.fr.injEq, Option.some.injEq, List.cons.injEq, exists_eq_left, exists_eq_left', exists_eq, exists_eq', exists_const, exists_and_left, true_and, and_true, true_implies, forall_const, Bool.false_eq_true, Bool.true_eq_false, false_implies, implies_true, decide_eq_true_eq, decide_eq_false_iff_not, Nat.reduceSub, Nat.reduceAdd, id_eq, List.length_cons, List.length_nil, List.length_append, reduceCtorEq, and_self, ite_true, ite_false, if_true, if_false, Bool.not_true, Bool.not_false, Bool.not_eq_true', Bool.not_eq_false', outP1, outP2, outP3, noOwn, wipeS, restS, false_and, and_false, eq_self_iff_true, not_true_eq_false, not_false_eq_true, decide_true, decide_false]
    rw [← h] at hq
    exact hq
  · obtain ⟨ps, x, y, e, rfl, h⟩ := hi
    cases ps with
    | nil => cases e
    | cons p ps =>
      rw [List.map_cons] at e
      cases e
      (try subst hk_meet_b0l0); unfold meet.b0l0; obtain ⟨k_meet_b0l0t0, hk_meet_b0l0t0⟩ : ∃ k, k = meet.b0l0t0 := ⟨_, rfl⟩; rw [← hk_meet_b0l0t0]; simp only [wpSs, wpS, wpE, wpA, wpC, wpT, wpTss, wpI, wpAnds, wpOrs, bindT, getS, setS, setsS, outS, slD, Pr.w, Pr.aw, pAdd, pInt, pMul, pCmp, pEq, pIsN, pLt, pLen, pAbs, pNeg, pInt1, pBool, pIsi, pIx, pSlc, pTupD, pLstD, pTupOf, pLstOf, pSum, pBs, pTwo, isNon, isIns, isTp, truth, items, ent, List.replicate, List.cons_append, List.nil_append, Rv.d, bodyP, at0, at1, at2, at3, at4, atm1, ixn1, ixn2, ixn3, set51, set52, set53, get51, D.int.injEq, D.bl.injEq, D.tup.injEq, D.lst.injEq, D.str.injEq, Sl.own.injEq, Sl.val.injEq, Rv.v.injEq, Rv.fr.injEq, Option.some.injEq, List.cons.injEq, exists_eq_left, exists_eq_left', exists_eq, exists_eq', exists_const, exists_and_left, true_and, and_true, true_implies, forall_const, Bool.false_eq_true, Bool.true_eq_false, false_implies, implies_true, decide_eq_true_eq, decide_eq_false_iff_not, Nat.reduceSub, Nat.reduceAdd, id_eq, List.length_cons, List.length_nil, List.length_append, reduceCtorEq, and_self, ite_true, ite_false, if_true, if_false, Bool.not_true, Bool.not_false, Bool.not_eq_true', Bool.not_eq_false', outP1, outP2, outP3, noOwn, wipeS, restS, false_and, and_false, eq_self_iff_true, not_true_eq_false, not_false_eq_true, decide_true, decide_false]
      rw [List.any_cons] at h
      refine ⟨fun h1 => ⟨fun h2 => ?_, fun h2 => ?_⟩, fun h1 => ?_⟩
      · (try subst hk_meet_b0l0t0); unfold meet.b0l0t0; simp only [wpSs, wpS, wpE, wpA, wpC, wpT, wpTss, wpI, wpAnds, wpOrs, bindT, getS, setS, setsS, outS, slD, Pr.w, Pr.aw, pAdd, pInt, pMul, pCmp, pEq, pIsN, pLt, pLen, pAbs, pNeg, pInt1, pBool, pIsi, pIx, pSlc, pTupD, pLstD, pTupOf, pLstOf, pSum, pBs, pTwo, isNon, isIns, isTp, truth, items, ent, List.replicate, List.cons_append, List.nil_append, Rv.d, bodyP, at0, at1, at2, at3, at4, atm1, ixn1, ixn2, ixn3, set51, set52, set53, get51, D.int.injEq, D.bl.injEq, D.tup.injEq, D.lst.injEq, D.str.injEq, Sl.own.injEq, Sl.val.injEq, Rv.v.injEq, Rv.fr.injEq, Option.some.injEq, List.cons.injEq, exists_eq_left, exists_eq_left', exists_eq, exists_eq', exists_const, exists_and_left, true_and, and_true, true_implies, forall_const, Bool.false_eq_true, Bool.true_eq_false, false_implies, implies_true, decide_eq_true_eq, decide_eq_false_iff_not, Nat.reduceSub, Nat.reduceAdd, id_eq, List.length_cons, List.length_nil, List.length_append, reduceCtorEq, and_self, ite_true, ite_false, if_true, if_false, Bool.not_true, Bool.not_false, Bool.not_eq_true', Bool.not_eq_false', outP1, outP2, outP3, noOwn, wipeS, restS, false_and, and_false, eq_self_iff_true, not_true_eq_false, not_false_eq_true, decide_true, decide_false]
        rw [← h, decide_eq_true h1, decide_eq_true h2] at hq
        exact hq
      · rw [decide_eq_true h1, decide_eq_false h2, Bool.true_and, Bool.false_or] at h
        exact ⟨fun z => absurd z h2, fun _ => hR _ ⟨ps, _, _, rfl, rfl, h⟩⟩
      · rw [decide_eq_false h1, Bool.false_and, Bool.false_or] at h
        exact ⟨fun z => absurd z h1, fun _ => hR _ ⟨ps, _, _, rfl, rfl, h⟩⟩
def sp_total : DSp := fun ss Q _ => ∃ as : List Int, ss = [.val (rw' as)] ∧ Q (.v (.int as.sum)) [.un]
theorem w_total : ∀ ss Q E, ss.length = 1 → sp_total ss Q E → wpSs [] total.b0 (ent ss 0) (bodyP ss Q E) := by
  rintro ss Q E - ⟨as, rfl, hq⟩
  (try subst hk_total_b0); unfold total.b0; simp only [rw', wpSs, wpS, wpE, wpA, wpC, wpT, wpTss, wpI, wpAnds, wpOrs, bindT, getS, setS, setsS, outS, slD, Pr.w, Pr.aw, pAdd, pInt, pMul, pCmp, pEq, pIsN, pLt, pLen, pAbs, pNeg, pInt1, pBool, pIsi, pIx, pSlc, pTupD, pLstD, pTupOf, pLstOf, pSum, pBs, pTwo, isNon, isIns, isTp, truth, items, ent, List.replicate, List.cons_append, List.nil_append, Rv.d, bodyP, at0, at1, at2, at3, at4, atm1, ixn1, ixn2, ixn3, set51, set52, set53, get51, D.int.injEq, D.bl.injEq, D.tup.injEq, D.lst.injEq, D.str.injEq, Sl.own.injEq, Sl.val.injEq, Rv.v.injEq, Rv.fr.injEq, Option.some.injEq, List.cons.injEq, exists_eq_left, exists_eq_left', exists_eq, exists_eq', exists_const, exists_and_left, true_and, and_true, true_implies, forall_const, Bool.false_eq_true, Bool.true_eq_false, false_implies, implies_true, decide_eq_true_eq, decide_eq_false_iff_not, Nat.reduceSub, Nat.reduceAdd, id_eq, List.length_cons, List.length_nil, List.length_append, reduceCtorEq, and_self, ite_true, ite_false, if_true, if_false, Bool.not_true, Bool.not_false, Bool.not_eq_true', Bool.not_eq_false', outP1, outP2, outP3, noOwn, wipeS, restS, false_and, and_false, eq_self_iff_true, not_true_eq_false, not_false_eq_true, decide_true, decide_false]
  exact ⟨as, rfl, hq⟩
def sp_dot : DSp := fun ss Q _ => ∃ as bs : List Int, ss = [.val (rw' as), .val (rw' bs)] ∧ Ok as ∧ Ok bs ∧ Q (.v (.int (List.zipWith (· * ·) as bs).sum)) [.un, .un]
theorem w_dot : ∀ ss Q E, ss.length = 2 → sp_dot ss Q E → wpSs [] dot.b0 (ent ss 2) (bodyP ss Q E) := by
  rintro ss Q E - ⟨as, bs, rfl, ha, hb, hq⟩
  (try subst hk_dot_b0); unfold dot.b0; simp only [rw', wpSs, wpS, wpE, wpA, wpC, wpT, wpTss, wpI, wpAnds, wpOrs, bindT, getS, setS, setsS, outS, slD, Pr.w, Pr.aw, pAdd, pInt, pMul, pCmp, pEq, pIsN, pLt, pLen, pAbs, pNeg, pInt1, pBool, pIsi, pIx, pSlc, pTupD, pLstD, pTupOf, pLstOf, pSum, pBs, pTwo, isNon, isIns, isTp, truth, items, ent, List.replicate, List.cons_append, List.nil_append, Rv.d, bodyP, at0, at1, at2, at3, at4, atm1, ixn1, ixn2, ixn3, set51, set52, set53, get51, D.int.injEq, D.bl.injEq, D.tup.injEq, D.lst.injEq, D.str.injEq, Sl.own.injEq, Sl.val.injEq, Rv.v.injEq, Rv.fr.injEq, Option.some.injEq, List.cons.injEq, exists_eq_left, exists_eq_left', exists_eq, exists_eq', exists_const, exists_and_left, true_and, and_true, true_implies, forall_const, Bool.false_eq_true, Bool.true_eq_false, false_implies, implies_true, decide_eq_true_eq, decide_eq_false_iff_not, Nat.reduceSub, Nat.reduceAdd, id_eq, List.length_cons, List.length_nil, List.length_append, reduceCtorEq, and_self, ite_true, ite_false, if_true, if_false, Bool.not_true, Bool.not_false, Bool.not_eq_true', Bool.not_eq_false', outP1, outP2, outP3, noOwn, wipeS, restS, false_and, and_false, eq_self_iff_true, not_true_eq_false, not_false_eq_true, decide_true, decide_false]
  refine ⟨_, _, .inl ⟨rfl, rfl⟩, ?_⟩
  rw [zip_ints]
  refine comp_map (pairF fun a b => a * b) _ (zip_len ha) (fun d hd R hR => ?_) ?_
  · obtain ⟨a, b, rfl, h1, h2⟩ := zip_mem hd
    (try simp only [wpSs, wpS, wpE, wpA, wpC, wpT, wpTss, wpI, wpAnds, wpOrs, bindT, getS, setS, setsS, outS, slD, Pr.w, Pr.aw, pAdd, pInt, pMul, pCmp, pEq, pIsN, pLt, pLen, pAbs, pNeg, pInt1, pBool, pIsi, pIx, pSlc, pTupD, pLstD, pTupOf, pLstOf, pSum, pBs, pTwo, isNon, isIns, isTp, truth, items, ent, List.replicate, List.cons_append, List.nil_append, Rv.d, bodyP, at0, at1, at2, at3, at4, atm1, ixn1, ixn2, ixn3, set51, set52, set53, get51, D.int.injEq, D.bl.injEq, D.tup.injEq, D.lst.injEq, D.str.injEq, Sl.own.injEq, Sl.val.injEq, Rv.v.injEq, Rv.fr.injEq, Option.some.injEq, List.cons.injEq, exists_eq_left, exists_eq_left', exists_eq, exists_eq', exists_const, exists_and_left, true_and, and_true, true_implies, forall_const, Bool.false_eq_true, Bool.true_eq_false, false_implies, implies_true, decide_eq_true_eq, decide_eq_false_iff_not, Nat.reduceSub, Nat.reduceAdd, id_eq, List.length_cons, List.length_nil, List.length_append, reduceCtorEq, and_self, ite_true, ite_false, if_true, if_false, Bool.not_true, Bool.not_false, Bool.not_eq_true', Bool.not_eq_false', outP1, outP2, outP3, noOwn, wipeS, restS, false_and, and_false, eq_self_iff_true, not_true_eq_false, not_false_eq_true, decide_true, decide_false])
    exact ⟨(ha.2 a h1).mulOk (hb.2 b h2) (by omega), hR⟩
  · (try simp only [wpSs, wpS, wpE, wpA, wpC, wpT, wpTss, wpI, wpAnds, wpOrs, bindT, getS, setS, setsS, outS, slD, Pr.w, Pr.aw, pAdd, pInt, pMul, pCmp, pEq, pIsN, pLt, pLen, pAbs, pNeg, pInt1, pBool, pIsi, pIx, pSlc, pTupD, pLstD, pTupOf, pLstOf, pSum, pBs, pTwo, isNon, isIns, isTp, truth, items, ent, List.replicate, List.cons_append, List.nil_append, Rv.d, bodyP, at0, at1, at2, at3, at4, atm1, ixn1, ixn2, ixn3, set51, set52, set53, get51, D.int.injEq, D.bl.injEq, D.tup.injEq, D.lst.injEq, D.str.injEq, Sl.own.injEq, Sl.val.injEq, Rv.v.injEq, Rv.fr.injEq, Option.some.injEq, List.cons.injEq, exists_eq_left, exists_eq_left', exists_eq, exists_eq', exists_const, exists_and_left, true_and, and_true, true_implies, forall_const, Bool.false_eq_true, Bool.true_eq_false, false_implies, implies_true, decide_eq_true_eq, decide_eq_false_iff_not, Nat.reduceSub, Nat.reduceAdd, id_eq, List.length_cons, List.length_nil, List.length_append, reduceCtorEq, and_self, ite_true, ite_false, if_true, if_false, Bool.not_true, Bool.not_false, Bool.not_eq_true', Bool.not_eq_false', outP1, outP2, outP3, noOwn, wipeS, restS, false_and, and_false, eq_self_iff_true, not_true_eq_false, not_false_eq_true, decide_true, decide_false])
    refine ⟨_, ?_, hq⟩
    rw [zip_map]
end K02

set_option Elab.async false
set_option linter.all false
set_option maxRecDepth 100000
namespace K02
open PySem PySem.Spec L2 Pd
def zs (n : Nat) : List Int := List.replicate n 0
theorem flat1 {x : D} {n : Nat} : (List.replicate n [x]).flatten = List.replicate n x := by
  induction n with
  | zero => rfl
  | succ n ih => rw [List.replicate_succ, List.flatten_cons, ih]; rfl
theorem zs_map {n : Nat} : (List.replicate n (D.int 0)) = (zs n).map .int := by unfold zs; rw [List.map_replicate]
def sp_zeros : DSp := fun ss Q _ => ∃ n : Nat, ss = [.val (.int (n : Int))] ∧ n ≤ 100 ∧ Q (.v (rw' (zs n))) [.un]
theorem w_zeros : ∀ ss Q E, ss.length = 1 → sp_zeros ss Q E → wpSs [] zeros.b0 (ent ss 0) (bodyP ss Q E) := by
  rintro ss Q E - ⟨n, rfl, hn, hq⟩
  (try subst hk_zeros_b0); unfold zeros.b0; simp only [wpSs, wpS, wpE, wpA, wpC, wpT, wpTss, wpI, wpAnds, wpOrs, bindT, getS, setS, setsS, outS, slD, Pr.w, Pr.aw, pAdd, pInt, pMul, pCmp, pEq, pIsN, pLt, pLen, pAbs, pNeg, pInt1, pBool, pIsi, pIx, pSlc, pTupD, pLstD, pTupOf, pLstOf, pSum, pBs, pTwo, isNon, isIns, isTp, truth, items, ent, List.replicate, List.cons_append, List.nil_append, Rv.d, bodyP, at0, at1, at2, at3, at4, atm1, ixn1, ixn2, ixn3, set51, set52, set53, get51, D.int.injEq, D.bl.injEq, D.tup.injEq, D.lst.injEq, D.str.injEq, Sl.own.injEq, Sl.val.injEq, Rv.v.injEq, Rv.fr.injEq, Option.some.injEq, List.cons.injEq, exists_eq_left, exists_eq_left', exists_eq, exists_eq', exists_const, exists_and_left, true_and, and_true, true_implies, forall_const, Bool.false_eq_true, Bool.true_eq_false, false_implies, implies_true, decide_eq_true_eq, decide_eq_false_iff_not, Nat.reduceSub, Nat.reduceAdd, id_eq, List.length_cons, List.length_nil, List.length_append, reduceCtorEq, and_self, ite_true, ite_false, if_true, if_false, Bool.not_true, Bool.not_false, Bool.not_eq_true', Bool.not_eq_false', outP1, outP2, outP3, noOwn, wipeS, restS, false_and, and_false, eq_self_iff_true, not_true_eq_false, not_false_eq_true, decide_true, decide_false]
  refine ⟨by decide, ⟨by omega, by omega, by decide⟩, ?_⟩
  rw [flat1, zs_map]
  exact hq
def un1 (n k : Nat) : List Int := zs k ++ [1] ++ zs (n - k - 1)
def sp_unit : DSp := fun ss Q _ => ∃ n k : Nat, ss = [.val (.int (n : Int)), .val (.int (k : Int))] ∧ n ≤ 100 ∧ k < n ∧ Q (.v (rw' (un1 n k))) [.un, .un]
theorem w_unit : ∀ ss Q E, ss.length = 2 → sp_unit ss Q E → wpSs [] unit.b0 (ent ss 0) (bodyP ss Q E) := by
  rintro ss Q E - ⟨n, k, rfl, hn, hk, hq⟩
  (try subst hk_unit_b0); unfold unit.b0; simp only [wpSs, wpS, wpE, wpA, wpC, wpT, wpTss, wpI, wpAnds, wpOrs, bindT, getS, setS, setsS, outS, slD, Pr.w, Pr.aw, pAdd, pInt, pMul, pCmp, pEq, pIsN, pLt, pLen, pAbs, pNeg, pInt1, pBool, pIsi, pIx, pSlc, pTupD, pLstD, pTupOf, pLstOf, pSum, pBs, pTwo, isNon, isIns, isTp, truth, items, ent, List.replicate, List.cons_append, List.nil_append, Rv.d, bodyP, at0, at1, at2, at3, at4, atm1, ixn1, ixn2, ixn3, set51, set52, set53, get51, D.int.injEq, D.bl.injEq, D.tup.injEq, D.lst.injEq, D.str.injEq, Sl.own.injEq, Sl.val.injEq, Rv.v.injEq, Rv.fr.injEq, Option.some.injEq, List.cons.injEq, exists_eq_left, exists_eq_left', exists_eq, exists_eq', exists_const, exists_and_left, true_and, and_true, true_implies, forall_const, Bool.false_eq_true, Bool.true_eq_false, false_implies, implies_true, decide_eq_true_eq, decide_eq_false_iff_not, Nat.reduceSub, Nat.reduceAdd, id_eq, List.length_cons, List.length_nil, List.length_append, reduceCtorEq, and_self, ite_true, ite_false, if_true, if_false, Bool.not_true, Bool.not_false, Bool.not_eq_true', Bool.not_eq_false', outP1, outP2, outP3, noOwn, wipeS, restS, false_and, and_false, eq_self_iff_true, not_true_eq_false, not_false_eq_true, decide_true, decide_false]
  refine ⟨by decide, ⟨by omega, by omega, by decide⟩, by decide, ?_, by decide, ⟨by omega, by omega, by decide⟩, ?_, ?_⟩
  · rw [flat1, List.length_replicate]; exact le_line (by omega)
  · rw [flat1, flat1, List.length_replicate, List.length_replicate]; exact le_line (by omega)
  · rw [flat1, flat1, zs_map, zs_map]
    have e : ((n : Int) - (k : Int) - 1).toNat = n - k - 1 := by omega
    have e2 : ((k : Nat) : Int).toNat = k := by omega
    rw [e, e2]
    have : (zs k).map D.int ++ [D.int 1] ++ (zs (n - k - 1)).map D.int = (un1 n k).map .int := by unfold un1; simp
    rw [this]
    exact hq
def supp (as : List Int) : List Int := ((List.range as.length).filter fun k => decide (as.getD k 0 ≠ 0)).map fun (k : Nat) => (k : Int)
theorem enum_row (as : List Int) : enumD (as.map .int) = (List.range as.length).map fun (k : Nat) => .tup [.int (k : Int), .int (as.getD k 0)] := by
  unfold enumD
  apply List.ext_getElem
  · simp
  · intro i h1 h2
    simp only [List.length_map, List.length_zip, List.length_range, Nat.min_self] at h1
    simp [List.getD_eq_getElem?_getD, h1]
def enP : D → Bool
  | .tup [_, .int x] => decide (x ≠ 0)
  | _ => false
def enG : D → D
  | .tup [i, _] => i
  | d => d
theorem en_all (as : List Int) : ((enumD (as.map .int)).filter enP).map enG = (supp as).map .int := by
  rw [enum_row, List.filter_map, List.map_map]
  unfold supp
  rw [List.map_map]
  rfl
def sp_support : DSp := fun ss Q _ => ∃ as : List Int, ss = [.val (rw' as)] ∧ Ok as ∧ Q (.v (rw' (supp as))) [.un]
theorem w_support : ∀ ss Q E, ss.length = 1 → sp_support ss Q E → wpSs [] support.b0 (ent ss 2) (bodyP ss Q E) := by
  rintro ss Q E - ⟨as, rfl, ha, hq⟩
  (try subst hk_support_b0); unfold support.b0; simp only [rw', wpSs, wpS, wpE, wpA, wpC, wpT, wpTss, wpI, wpAnds, wpOrs, bindT, getS, setS, setsS, outS, slD, Pr.w, Pr.aw, pAdd, pInt, pMul, pCmp, pEq, pIsN, pLt, pLen, pAbs, pNeg, pInt1, pBool, pIsi, pIx, pSlc, pTupD, pLstD, pTupOf, pLstOf, pSum, pBs, pTwo, isNon, isIns, isTp, truth, items, ent, List.replicate, List.cons_append, List.nil_append, Rv.d, bodyP, at0, at1, at2, at3, at4, atm1, ixn1, ixn2, ixn3, set51, set52, set53, get51, D.int.injEq, D.bl.injEq, D.tup.injEq, D.lst.injEq, D.str.injEq, Sl.own.injEq, Sl.val.injEq, Rv.v.injEq, Rv.fr.injEq, Option.some.injEq, List.cons.injEq, exists_eq_left, exists_eq_left', exists_eq, exists_eq', exists_const, exists_and_left, true_and, and_true, true_implies, forall_const, Bool.false_eq_true, Bool.true_eq_false, false_implies, implies_true, decide_eq_true_eq, decide_eq_false_iff_not, Nat.reduceSub, Nat.reduceAdd, id_eq, List.length_cons, List.length_nil, List.length_append, reduceCtorEq, and_self, ite_true, ite_false, if_true, if_false, Bool.not_true, Bool.not_false, Bool.not_eq_true', Bool.not_eq_false', outP1, outP2, outP3, noOwn, wipeS, restS, false_and, and_false, eq_self_iff_true, not_true_eq_false, not_false_eq_true, decide_true, decide_false]
  refine comp_all enP enG _ [] ?_ (fun d hd R h1 h2 => ?_) ?_
  · have := ha.1
    rw [enum_row, List.length_map, List.length_range]
    exact le_line (by simp; omega)
  · rw [enum_row] at hd
    obtain ⟨k, hk, rfl⟩ := List.mem_map.mp hd
    (try simp only [deq_int, plain_int, wpSs, wpS, wpE, wpA, wpC, wpT, wpTss, wpI, wpAnds, wpOrs, bindT, getS, setS, setsS, outS, slD, Pr.w, Pr.aw, pAdd, pInt, pMul, pCmp, pEq, pIsN, pLt, pLen, pAbs, pNeg, pInt1, pBool, pIsi, pIx, pSlc, pTupD, pLstD, pTupOf, pLstOf, pSum, pBs, pTwo, isNon, isIns, isTp, truth, items, ent, List.replicate, List.cons_append, List.nil_append, Rv.d, bodyP, at0, at1, at2, at3, at4, atm1, ixn1, ixn2, ixn3, set51, set52, set53, get51, D.int.injEq, D.bl.injEq, D.tup.injEq, D.lst.injEq, D.str.injEq, Sl.own.injEq, Sl.val.injEq, Rv.v.injEq, Rv.fr.injEq, Option.some.injEq, List.cons.injEq, exists_eq_left, exists_eq_left', exists_eq, exists_eq', exists_const, exists_and_left, true_and, and_true, true_implies, forall_const, Bool.false_eq_true, Bool.true_eq_false, false_implies, implies_true, decide_eq_true_eq, decide_eq_false_iff_not, Nat.reduceSub, Nat.reduceAdd, id_eq, List.length_cons, List.length_nil, List.length_append, reduceCtorEq, and_self, ite_true, ite_false, if_true, if_false, Bool.not_true, Bool.not_false, Bool.not_eq_true', Bool.not_eq_false', outP1, outP2, outP3, noOwn, wipeS, restS, false_and, and_false, eq_self_iff_true, not_true_eq_false, not_false_eq_true, decide_true, decide_false])
    have e1 : as.getD k 0 ≠ 0 → R (some (D.int (k : Int))) [Sl.val (D.tup (as.map D.int)), Sl.un, Sl.un] := fun h => h1 (decide_eq_true h)
    have e2 : as.getD k 0 = 0 → R none [Sl.val (D.tup (as.map D.int)), Sl.un, Sl.un] := fun h => h2 (decide_eq_false fun z => z h)
    exact ⟨fun h => e1 h, fun h => ⟨fun z => absurd h z, fun _ => e2 h⟩⟩
  · (try simp only [wpSs, wpS, wpE, wpA, wpC, wpT, wpTss, wpI, wpAnds, wpOrs, bindT, getS, setS, setsS, outS, slD, Pr.w, Pr.aw, pAdd, pInt, pMul, pCmp, pEq, pIsN, pLt, pLen, pAbs, pNeg, pInt1, pBool, pIsi, pIx, pSlc, pTupD, pLstD, pTupOf, pLstOf, pSum, pBs, pTwo, isNon, isIns, isTp, truth, items, ent, List.replicate, List.cons_append, List.nil_append, Rv.d, bodyP, at0, at1, at2, at3, at4, atm1, ixn1, ixn2, ixn3, set51, set52, set53, get51, D.int.injEq, D.bl.injEq, D.tup.injEq, D.lst.injEq, D.str.injEq, Sl.own.injEq, Sl.val.injEq, Rv.v.injEq, Rv.fr.injEq, Option.some.injEq, List.cons.injEq, exists_eq_left, exists_eq_left', exists_eq, exists_eq', exists_const, exists_and_left, true_and, and_true, true_implies, forall_const, Bool.false_eq_true, Bool.true_eq_false, false_implies, implies_true, decide_eq_true_eq, decide_eq_false_iff_not, Nat.reduceSub, Nat.reduceAdd, id_eq, List.length_cons, List.length_nil, List.length_append, reduceCtorEq, and_self, ite_true, ite_false, if_true, if_false, Bool.not_true, Bool.not_false, Bool.not_eq_true', Bool.not_eq_false', outP1, outP2, outP3, noOwn, wipeS, restS, false_and, and_false, eq_self_iff_true, not_true_eq_false, not_false_eq_true, decide_true, decide_false])
    rw [en_all]
    exact hq
/-! ### is it a row? -/
def geB (least : Int) : D → Bool
  | .int a => decide (least ≤ a)
  | _ => false
def isRow (least : Int) (n : Int) : D → Bool
  | .tup xs => decide ((xs.length : Int) = n) && xs.all (geB least)
  | _ => false
def okV (d : D) : Prop := isIns d = false ∧ ∀ xs, d = .tup xs → xs.length ≤ 100 ∧ ∀ x ∈ xs, isIns x = false
def G_row : Gam := [("is_whole", 1, sp_whole)]
theorem G_row.s0 : gam G_row 0 = sp_whole := rfl
def sp_row : DSp := fun ss Q _ => ∃ (d : D) (n : Int), ss = [.val d, .val (.int n)] ∧ okV d ∧ Q (.v (.bl (isRow 0 n d))) [.un, .un]
theorem w_row : ∀ ss Q E, ss.length = 2 → sp_row ss Q E → wpSs G_row is_row.b0 (ent ss 1) (bodyP ss Q E) := by
  rintro ss Q E - ⟨d, n, rfl, ⟨hd, hx⟩, hq⟩
  cases d <;> first
    | (cases hd; done)
    | skip
  all_goals (try subst hk_is_row_b0); unfold is_row.b0; obtain ⟨k_is_row_b0t0, hk_is_row_b0t0⟩ : ∃ k, k = is_row.b0t0 := ⟨_, rfl⟩; rw [← hk_is_row_b0t0]; obtain ⟨k_is_row_b1, hk_is_row_b1⟩ : ∃ k, k = is_row.b1 := ⟨_, rfl⟩; rw [← hk_is_row_b1]; simp only [deq_int, plain_int, wpSs, wpS, wpE, wpA, wpC, wpT, wpTss, wpI, wpAnds, wpOrs, bindT, getS, setS, setsS, outS, slD, Pr.w, Pr.aw, pAdd, pInt, pMul, pCmp, pEq, pIsN, pLt, pLen, pAbs, pNeg, pInt1, pBool, pIsi, pIx, pSlc, pTupD, pLstD, pTupOf, pLstOf, pSum, pBs, pTwo, isNon, isIns, isTp, truth, items, ent, List.replicate, List.cons_append, List.nil_append, Rv.d, bodyP, at0, at1, at2, at3, at4, atm1, ixn1, ixn2, ixn3, set51, set52, set53, get51, D.int.injEq, D.bl.injEq, D.tup.injEq, D.lst.injEq, D.str.injEq, Sl.own.injEq, Sl.val.injEq, Rv.v.injEq, Rv.fr.injEq, Option.some.injEq, List.cons.injEq, exists_eq_left, exists_eq_left', exists_eq, exists_eq', exists_const, exists_and_left, true_and, and_true, true_implies, forall_const, Bool.false_eq_true, Bool.true_eq_false, false_implies, implies_true, decide_eq_true_eq, decide_eq_false_iff_not, Nat.reduceSub, Nat.reduceAdd, id_eq, List.length_cons, List.length_nil, List.length_append, reduceCtorEq, and_self, ite_true, ite_false, if_true, if_false, Bool.not_true, Bool.not_false, Bool.not_eq_true', Bool.not_eq_false', outP1, outP2, outP3, noOwn, wipeS, restS, false_and, and_false, eq_self_iff_true, not_true_eq_false, not_false_eq_true, decide_true, decide_false]
  case tup xs =>
    simp only [isRow] at hq
    have key : (xs.length : Int) = n → wpSs G_row is_row.b1 [Sl.val (D.tup xs), .val (.int n), .un] (bodyP [Sl.val (D.tup xs), .val (.int n)] Q E) := by
      intro h
      rw [decide_eq_true h, Bool.true_and] at hq
      (try subst hk_is_row_b1); unfold is_row.b1; obtain ⟨k_is_row_b1l0, hk_is_row_b1l0⟩ : ∃ k, k = is_row.b1l0 := ⟨_, rfl⟩; rw [← hk_is_row_b1l0]; obtain ⟨k_is_row_b2, hk_is_row_b2⟩ : ∃ k, k = is_row.b2 := ⟨_, rfl⟩; rw [← hk_is_row_b2]; simp only [wpSs, wpS, wpE, wpA, wpC, wpT, wpTss, wpI, wpAnds, wpOrs, bindT, getS, setS, setsS, outS, slD, Pr.w, Pr.aw, pAdd, pInt, pMul, pCmp, pEq, pIsN, pLt, pLen, pAbs, pNeg, pInt1, pBool, pIsi, pIx, pSlc, pTupD, pLstD, pTupOf, pLstOf, pSum, pBs, pTwo, isNon, isIns, isTp, truth, items, ent, List.replicate, List.cons_append, List.nil_append, Rv.d, bodyP, at0, at1, at2, at3, at4, atm1, ixn1, ixn2, ixn3, set51, set52, set53, get51, D.int.injEq, D.bl.injEq, D.tup.injEq, D.lst.injEq, D.str.injEq, Sl.own.injEq, Sl.val.injEq, Rv.v.injEq, Rv.fr.injEq, Option.some.injEq, List.cons.injEq, exists_eq_left, exists_eq_left', exists_eq, exists_eq', exists_const, exists_and_left, true_and, and_true, true_implies, forall_const, Bool.false_eq_true, Bool.true_eq_false, false_implies, implies_true, decide_eq_true_eq, decide_eq_false_iff_not, Nat.reduceSub, Nat.reduceAdd, id_eq, List.length_cons, List.length_nil, List.length_append, reduceCtorEq, and_self, ite_true, ite_false, if_true, if_false, Bool.not_true, Bool.not_false, Bool.not_eq_true', Bool.not_eq_false', outP1, outP2, outP3, noOwn, wipeS, restS, false_and, and_false, eq_self_iff_true, not_true_eq_false, not_false_eq_true, decide_true, decide_false]
      refine forL_of (fun rest env => (∀ x ∈ rest, isIns x = false) ∧ rest.all (geB 0) = xs.all (geB 0) ∧ ∃ y, env = [.val (.tup xs), .val (.int n), y]) (fun env hi => ?_) (fun d rest env hi R hR => ?_) _ _ ⟨(hx xs rfl).2, rfl, _, rfl⟩
      · obtain ⟨-, h2, y, rfl⟩ := hi
        (try subst hk_is_row_b2); unfold is_row.b2; simp only [wpSs, wpS, wpE, wpA, wpC, wpT, wpTss, wpI, wpAnds, wpOrs, bindT, getS, setS, setsS, outS, slD, Pr.w, Pr.aw, pAdd, pInt, pMul, pCmp, pEq, pIsN, pLt, pLen, pAbs, pNeg, pInt1, pBool, pIsi, pIx, pSlc, pTupD, pLstD, pTupOf, pLstOf, pSum, pBs, pTwo, isNon, isIns, isTp, truth, items, ent, List.replicate, List.cons_append, List.nil_append, Rv.d, bodyP, at0, at1, at2, at3, at4, atm1, ixn1, ixn2, ixn3, set51, set52, set53, get51, D.int.injEq, D.bl.injEq, D.tup.injEq, D.lst.injEq, D.str.injEq, Sl.own.injEq, Sl.val.injEq, Rv.v.injEq, Rv.fr.injEq, Option.some.injEq, List.cons.injEq, exists_eq_left, exists_eq_left', exists_eq, exists_eq', exists_const, exists_and_left, true_and, and_true, true_implies, forall_const, Bool.false_eq_true, Bool.true_eq_false, false_implies, implies_true, decide_eq_true_eq, decide_eq_false_iff_not, Nat.reduceSub, Nat.reduceAdd, id_eq, List.length_cons, List.length_nil, List.length_append, reduceCtorEq, and_self, ite_true, ite_false, if_true, if_false, Bool.not_true, Bool.not_false, Bool.not_eq_true', Bool.not_eq_false', outP1, outP2, outP3, noOwn, wipeS, restS, false_and, and_false, eq_self_iff_true, not_true_eq_false, not_false_eq_true, decide_true, decide_false]
        rw [← h2] at hq
        exact hq
      · obtain ⟨h1, h2, y, rfl⟩ := hi
        have i1 := h1 d List.mem_cons_self
        rw [List.all_cons] at h2
        (try subst hk_is_row_b1l0); unfold is_row.b1l0; obtain ⟨k_is_row_b1l0t0, hk_is_row_b1l0t0⟩ : ∃ k, k = is_row.b1l0t0 := ⟨_, rfl⟩; rw [← hk_is_row_b1l0t0]; simp only [G_row.s0, wpSs, wpS, wpE, wpA, wpC, wpT, wpTss, wpI, wpAnds, wpOrs, bindT, getS, setS, setsS, outS, slD, Pr.w, Pr.aw, pAdd, pInt, pMul, pCmp, pEq, pIsN, pLt, pLen, pAbs, pNeg, pInt1, pBool, pIsi, pIx, pSlc, pTupD, pLstD, pTupOf, pLstOf, pSum, pBs, pTwo, isNon, isIns, isTp, truth, items, ent, List.replicate, List.cons_append, List.nil_append, Rv.d, bodyP, at0, at1, at2, at3, at4, atm1, ixn1, ixn2, ixn3, set51, set52, set53, get51, D.int.injEq, D.bl.injEq, D.tup.injEq, D.lst.injEq, D.str.injEq, Sl.own.injEq, Sl.val.injEq, Rv.v.injEq, Rv.fr.injEq, Option.some.injEq, List.cons.injEq, exists_eq_left, exists_eq_left', exists_eq, exists_eq', exists_const, exists_and_left, true_and, and_true, true_implies, forall_const, Bool.false_eq_true, Bool.true_eq_false, false_implies, implies_true, decide_eq_true_eq, decide_eq_false_iff_not, Nat.reduceSub, Nat.reduceAdd, id_eq, List.length_cons, List.length_nil, List.length_append, reduceCtorEq, and_self, ite_true, ite_false, if_true, if_false, Bool.not_true, Bool.not_false, Bool.not_eq_true', Bool.not_eq_false', outP1, outP2, outP3, noOwn, wipeS, restS, false_and, and_false, eq_self_iff_true, not_true_eq_false, not_false_eq_true, decide_true, decide_false]
        refine ⟨d, rfl, i1, ?_⟩
        rcases isInt_or d with ⟨a, rfl⟩ | hx0
        · rw [show isInt (.int a) = true from rfl]
          (try simp only [wpSs, wpS, wpE, wpA, wpC, wpT, wpTss, wpI, wpAnds, wpOrs, bindT, getS, setS, setsS, outS, slD, Pr.w, Pr.aw, pAdd, pInt, pMul, pCmp, pEq, pIsN, pLt, pLen, pAbs, pNeg, pInt1, pBool, pIsi, pIx, pSlc, pTupD, pLstD, pTupOf, pLstOf, pSum, pBs, pTwo, isNon, isIns, isTp, truth, items, ent, List.replicate, List.cons_append, List.nil_append, Rv.d, bodyP, at0, at1, at2, at3, at4, atm1, ixn1, ixn2, ixn3, set51, set52, set53, get51, D.int.injEq, D.bl.injEq, D.tup.injEq, D.lst.injEq, D.str.injEq, Sl.own.injEq, Sl.val.injEq, Rv.v.injEq, Rv.fr.injEq, Option.some.injEq, List.cons.injEq, exists_eq_left, exists_eq_left', exists_eq, exists_eq', exists_const, exists_and_left, true_and, and_true, true_implies, forall_const, Bool.false_eq_true, Bool.true_eq_false, false_implies, implies_true, decide_eq_true_eq, decide_eq_false_iff_not, Nat.reduceSub, Nat.reduceAdd, id_eq, List.length_cons, List.length_nil, List.length_append, reduceCtorEq, and_self, ite_true, ite_false, if_true, if_false, Bool.not_true, Bool.not_false, Bool.not_eq_true', Bool.not_eq_false', outP1, outP2, outP3, noOwn, wipeS, restS, false_and, and_false, eq_self_iff_true, not_true_eq_false, not_false_eq_true, decide_true, decide_false])
          refine ⟨fun h3 => ?_, fun h3 => ⟨fun _ => ?_, fun h4 => absurd h3 h4⟩⟩
          · rw [show geB 0 (.int a) = decide (0 ≤ a) from rfl, decide_eq_true (show 0 ≤ a by omega), Bool.true_and] at h2
            exact hR _ ⟨fun x hx => h1 x (List.mem_cons_of_mem _ hx), h2, _, rfl⟩
          · (try subst hk_is_row_b1l0t0); unfold is_row.b1l0t0; simp only [wpSs, wpS, wpE, wpA, wpC, wpT, wpTss, wpI, wpAnds, wpOrs, bindT, getS, setS, setsS, outS, slD, Pr.w, Pr.aw, pAdd, pInt, pMul, pCmp, pEq, pIsN, pLt, pLen, pAbs, pNeg, pInt1, pBool, pIsi, pIx, pSlc, pTupD, pLstD, pTupOf, pLstOf, pSum, pBs, pTwo, isNon, isIns, isTp, truth, items, ent, List.replicate, List.cons_append, List.nil_append, Rv.d, bodyP, at0, at1, at2, at3, at4, atm1, ixn1, ixn2, ixn3, set51, set52, set53, get51, D.int.injEq, D.bl.injEq, D.tup.injEq, D.lst.injEq, D.str.injEq, Sl.own.injEq, Sl.val.injEq, Rv.v.injEq, Rv.fr.injEq, Option.some.injEq, List.cons.injEq, exists_eq_left, exists_eq_left', exists_eq, exists_eq', exists_const, exists_and_left, true_and, and_true, true_implies, forall_const, Bool.false_eq_true, Bool.true_eq_false, false_implies, implies_true, decide_eq_true_eq, decide_eq_false_iff_not, Nat.reduceSub, Nat.reduceAdd, id_eq, List.length_cons, List.length_nil, List.length_append, reduceCtorEq, and_self, ite_true, ite_false, if_true, if_false, Bool.not_true, Bool.not_false, Bool.not_eq_true', Bool.not_eq_false', outP1, outP2, outP3, noOwn, wipeS, restS, false_and, and_false, eq_self_iff_true, not_true_eq_false, not_false_eq_true, decide_true, decide_false]
            rw [← h2, show geB 0 (.int a) = decide (0 ≤ a) from rfl, decide_eq_false (show ¬ 0 ≤ a by omega), Bool.false_and] at hq
            exact hq
        · rw [hx0]
          (try simp only [wpSs, wpS, wpE, wpA, wpC, wpT, wpTss, wpI, wpAnds, wpOrs, bindT, getS, setS, setsS, outS, slD, Pr.w, Pr.aw, pAdd, pInt, pMul, pCmp, pEq, pIsN, pLt, pLen, pAbs, pNeg, pInt1, pBool, pIsi, pIx, pSlc, pTupD, pLstD, pTupOf, pLstOf, pSum, pBs, pTwo, isNon, isIns, isTp, truth, items, ent, List.replicate, List.cons_append, List.nil_append, Rv.d, bodyP, at0, at1, at2, at3, at4, atm1, ixn1, ixn2, ixn3, set51, set52, set53, get51, D.int.injEq, D.bl.injEq, D.tup.injEq, D.lst.injEq, D.str.injEq, Sl.own.injEq, Sl.val.injEq, Rv.v.injEq, Rv.fr.injEq, Option.some.injEq, List.cons.injEq, exists_eq_left, exists_eq_left', exists_eq, exists_eq', exists_const, exists_and_left, true_and, and_true, true_implies, forall_const, Bool.false_eq_true, Bool.true_eq_false, false_implies, implies_true, decide_eq_true_eq, decide_eq_false_iff_not, Nat.reduceSub, Nat.reduceAdd, id_eq, List.length_cons, List.length_nil, List.length_append, reduceCtorEq, and_self, ite_true, ite_false, if_true, if_false, Bool.not_true, Bool.not_false, Bool.not_eq_true', Bool.not_eq_false', outP1, outP2, outP3, noOwn, wipeS, restS, false_and, and_false, eq_self_iff_true, not_true_eq_false, not_false_eq_true, decide_true, decide_false])
          (try subst hk_is_row_b1l0t0); unfold is_row.b1l0t0; simp only [wpSs, wpS, wpE, wpA, wpC, wpT, wpTss, wpI, wpAnds, wpOrs, bindT, getS, setS, setsS, outS, slD, Pr.w, Pr.aw, pAdd, pInt, pMul, pCmp, pEq, pIsN, pLt, pLen, pAbs, pNeg, pInt1, pBool, pIsi, pIx, pSlc, pTupD, pLstD, pTupOf, pLstOf, pSum, pBs, pTwo, isNon, isIns, isTp, truth, items, ent, List.replicate, List.cons_append, List.nil_append, Rv.d, bodyP, at0, at1, at2, at3, at4, atm1, ixn1, ixn2, ixn3, set51, set52, set53, get51, D.int.injEq, D.bl.injEq, D.tup.injEq, D.lst.injEq, D.str.injEq, Sl.own.injEq, Sl.val.injEq, Rv.v.injEq, Rv.fr.injEq, Option.some.injEq, List.cons.injEq, exists_eq_left, exists_eq_left', exists_eq, exists_eq', exists_const, exists_and_left, true_and, and_true, true_implies, forall_const, Bool.false_eq_true, Bool.true_eq_false, false_implies, implies_true, decide_eq_true_eq, decide_eq_false_iff_not, Nat.reduceSub, Nat.reduceAdd, id_eq, List.length_cons, List.length_nil, List.length_append, reduceCtorEq, and_self, ite_true, ite_false, if_true, if_false, Bool.not_true, Bool.not_false, Bool.not_eq_true', Bool.not_eq_false', outP1, outP2, outP3, noOwn, wipeS, restS, false_and, and_false, eq_self_iff_true, not_true_eq_false, not_false_eq_true, decide_true, decide_false]
          have g0 : geB 0 d = false := by
            cases d <;> first
              | rfl
              | (cases hx0; done)
          rw [← h2, g0, Bool.false_and] at hq
          exact hq
    subst hk_is_row_b1
    refine ⟨key, fun h => ⟨fun _ => ?_, fun h' => absurd h' h⟩⟩
    (try subst hk_is_row_b0t0); unfold is_row.b0t0; simp only [wpSs, wpS, wpE, wpA, wpC, wpT, wpTss, wpI, wpAnds, wpOrs, bindT, getS, setS, setsS, outS, slD, Pr.w, Pr.aw, pAdd, pInt, pMul, pCmp, pEq, pIsN, pLt, pLen, pAbs, pNeg, pInt1, pBool, pIsi, pIx, pSlc, pTupD, pLstD, pTupOf, pLstOf, pSum, pBs, pTwo, isNon, isIns, isTp, truth, items, ent, List.replicate, List.cons_append, List.nil_append, Rv.d, bodyP, at0, at1, at2, at3, at4, atm1, ixn1, ixn2, ixn3, set51, set52, set53, get51, D.int.injEq, D.bl.injEq, D.tup.injEq, D.lst.injEq, D.str.injEq, Sl.own.injEq, Sl.val.injEq, Rv.v.injEq, Rv.fr.injEq, Option.some.injEq, List.cons.injEq, exists_eq_left, exists_eq_left', exists_eq, exists_eq', exists_const, exists_and_left, true_and, and_true, true_implies, forall_const, Bool.false_eq_true, Bool.true_eq_false, false_implies, implies_true, decide_eq_true_eq, decide_eq_false_iff_not, Nat.reduceSub, Nat.reduceAdd, id_eq, List.length_cons, List.length_nil, List.length_append, reduceCtorEq, and_self, ite_true, ite_false, if_true, if_false, Bool.not_true, Bool.not_false, Bool.not_eq_true', Bool.not_eq_false', outP1, outP2, outP3, noOwn, wipeS, restS, false_and, and_false, eq_self_iff_true, not_true_eq_false, not_false_eq_true, decide_true, decide_false]
    rw [decide_eq_false h, Bool.false_and] at hq
    exact hq
  all_goals ((try subst hk_is_row_b0t0); unfold is_row.b0t0; simp only [wpSs, wpS, wpE, wpA, wpC, wpT, wpTss, wpI, wpAnds, wpOrs, bindT, getS, setS, setsS, outS, slD, Pr.w, Pr.aw, pAdd, pInt, pMul, pCmp, pEq, pIsN, pLt, pLen, pAbs, pNeg, pInt1, pBool, pIsi, pIx, pSlc, pTupD, pLstD, pTupOf, pLstOf, pSum, pBs, pTwo, isNon, isIns, isTp, truth, items, ent, List.replicate, List.cons_append, List.nil_append, Rv.d, bodyP, at0, at1, at2, at3, at4, atm1, ixn1, ixn2, ixn3, set51, set52, set53, get51, D.int.injEq, D.bl.injEq, D.tup.injEq, D.lst.injEq, D.str.injEq, Sl.own.injEq, Sl.val.injEq, Rv.v.injEq, Rv.fr.injEq, Option.some.injEq, List.cons.injEq, exists_eq_left, exists_eq_left', exists_eq, exists_eq', exists_const, exists_and_left, true_and, and_true, true_implies, forall_const, Bool.false_eq_true, Bool.true_eq_false, false_implies, implies_true, decide_eq_true_eq, decide_eq_false_iff_not, Nat.reduceSub, Nat.reduceAdd, id_eq, List.length_cons, List.length_nil, List.length_append, reduceCtorEq, and_self, ite_true, ite_false, if_true, if_false, Bool.not_true, Bool.not_false, Bool.not_eq_true', Bool.not_eq_false', outP1, outP2, outP3, noOwn, wipeS, restS, false_and, and_false, eq_self_iff_true, not_true_eq_false, not_false_eq_true, decide_true, decide_false]; exact hq)
/-! ### the law's own words -/
theorem at_get {as : List Int} {k : Nat} (h : k < as.length) : as.getD k 0 ∈ as := by
  rw [List.getD_eq_getElem?_getD, List.getElem?_eq_getElem h]
  exact List.getElem_mem h
/-- a comprehension over the places -/
theorem comp_rng {body : D → Pd.Env → (Option D → Pd.Env → Prop) → Prop} {Q : List D → Pd.Env → Prop} {E0 : Pd.Env} (g : Nat → D) (n : Nat) (hl : n ≤ 1000)
    (h : ∀ k, k < n → ∀ R : Option D → Pd.Env → Prop, R (some (g k)) E0 → body (.int (0 + (k : Int))) E0 R) (hq : Q ((List.range n).map g) E0) : compL body (rngD 0 n) [] E0 Q := by
  refine comp_map (fun d => match d with | .int i => g i.toNat | d => d) _ ?_ (fun d hd R hR => ?_) ?_
  · unfold rngD; rw [List.length_map, List.length_range]; exact le_line hl
  · unfold rngD at hd
    obtain ⟨k, hk, rfl⟩ := List.mem_map.mp hd
    rw [List.mem_range] at hk
    refine h k hk R ?_
    have e : (0 + (k : Int)).toNat = k := by omega
    simp only [e] at hR
    exact hR
  · unfold rngD
    rw [List.map_map]
    have : ((fun d : D => match d with | .int i => g i.toNat | d => d) ∘ fun (i : Nat) => D.int (0 + (i : Int))) = g := by
      funext k
      have e : (0 + (k : Int)).toNat = k := by omega
      show g (0 + (k : Int)).toNat = g k
      rw [e]
    rw [this]
    exact hq
def G_int : Gam := [("_law_is_int", 1, sp_whole)]
theorem G_int.s0 : gam G_int 0 = sp_whole := rfl
theorem all_bl (xs : List D) (f : D → Bool) : (xs.map fun d => D.bl (f d)) = (xs.map f).map .bl := by rw [List.map_map]; rfl
def sp_ints : DSp := fun ss Q _ => ∃ (d : D) (n m : Int), ss = [.val d, .val (.int n), .val (.int m)] ∧ okV d ∧ Q (.v (.bl (isRow m n d))) [.un, .un, .un]
theorem w_ints : ∀ ss Q E, ss.length = 3 → sp_ints ss Q E → wpSs G_int law_is_ints.b0 (ent ss 1) (bodyP ss Q E) := by
  rintro ss Q E - ⟨d, n, m, rfl, ⟨hd, hx⟩, hq⟩
  cases d <;> first
    | (cases hd; done)
    | skip
  all_goals (try subst hk_law_is_ints_b0); unfold law_is_ints.b0; obtain ⟨k_law_is_ints_b0t0, hk_law_is_ints_b0t0⟩ : ∃ k, k = law_is_ints.b0t0 := ⟨_, rfl⟩; rw [← hk_law_is_ints_b0t0]; obtain ⟨k_law_is_ints_b1, hk_law_is_ints_b1⟩ : ∃ k, k = law_is_ints.b1 := ⟨_, rfl⟩; rw [← hk_law_is_ints_b1]; simp only [deq_int, plain_int, wpSs, wpS, wpE, wpA, wpC, wpT, wpTss, wpI, wpAnds, wpOrs, bindT, getS, setS, setsS, outS, slD, Pr.w, Pr.aw, pAdd, pInt, pMul, pCmp, pEq, pIsN, pLt, pLen, pAbs, pNeg, pInt1, pBool, pIsi, pIx, pSlc, pTupD, pLstD, pTupOf, pLstOf, pSum, pBs, pTwo, isNon, isIns, isTp, truth, items, ent, List.replicate, List.cons_append, List.nil_append, Rv.d, bodyP, at0, at1, at2, at3, at4, atm1, ixn1, ixn2, ixn3, set51, set52, set53, get51, D.int.injEq, D.bl.injEq, D.tup.injEq, D.lst.injEq, D.str.injEq, Sl.own.injEq, Sl.val.injEq, Rv.v.injEq, Rv.fr.injEq, Option.some.injEq, List.cons.injEq, exists_eq_left, exists_eq_left', exists_eq, exists_eq', exists_const, exists_and_left, true_and, and_true, true_implies, forall_const, Bool.false_eq_true, Bool.true_eq_false, false_implies, implies_true, decide_eq_true_eq, decide_eq_false_iff_not, Nat.reduceSub, Nat.reduceAdd, id_eq, List.length_cons, List.length_nil, List.length_append, reduceCtorEq, and_self, ite_true, ite_false, if_true, if_false, Bool.not_true, Bool.not_false, Bool.not_eq_true', Bool.not_eq_false', outP1, outP2, outP3, noOwn, wipeS, restS, false_and, and_false, eq_self_iff_true, not_true_eq_false, not_false_eq_true, decide_true, decide_false]
  case tup xs =>
    simp only [isRow] at hq
    have key : (xs.length : Int) = n → wpSs G_int law_is_ints.b1 [Sl.val (D.tup xs), .val (.int n), .val (.int m), .un] (bodyP [Sl.val (D.tup xs), .val (.int n), .val (.int m)] Q E) := by
      intro h
      rw [decide_eq_true h, Bool.true_and] at hq
      (try subst hk_law_is_ints_b1); unfold law_is_ints.b1; simp only [G_int.s0, wpSs, wpS, wpE, wpA, wpC, wpT, wpTss, wpI, wpAnds, wpOrs, bindT, getS, setS, setsS, outS, slD, Pr.w, Pr.aw, pAdd, pInt, pMul, pCmp, pEq, pIsN, pLt, pLen, pAbs, pNeg, pInt1, pBool, pIsi, pIx, pSlc, pTupD, pLstD, pTupOf, pLstOf, pSum, pBs, pTwo, isNon, isIns, isTp, truth, items, ent, List.replicate, List.cons_append, List.nil_append, Rv.d, bodyP, at0, at1, at2, at3, at4, atm1, ixn1, ixn2, ixn3, set51, set52, set53, get51, D.int.injEq, D.bl.injEq, D.tup.injEq, D.lst.injEq, D.str.injEq, Sl.own.injEq, Sl.val.injEq, Rv.v.injEq, Rv.fr.injEq, Option.some.injEq, List.cons.injEq, exists_eq_left, exists_eq_left', exists_eq, exists_eq', exists_const, exists_and_left, true_and, and_true, true_implies, forall_const, Bool.false_eq_true, Bool.true_eq_false, false_implies, implies_true, decide_eq_true_eq, decide_eq_false_iff_not, Nat.reduceSub, Nat.reduceAdd, id_eq, List.length_cons, List.length_nil, List.length_append, reduceCtorEq, and_self, ite_true, ite_false, if_true, if_false, Bool.not_true, Bool.not_false, Bool.not_eq_true', Bool.not_eq_false', outP1, outP2, outP3, noOwn, wipeS, restS, false_and, and_false, eq_self_iff_true, not_true_eq_false, not_false_eq_true, decide_true, decide_false]
      refine comp_map (fun d => .bl (geB m d)) _ (le_line (by have := (hx xs rfl).1; omega)) (fun d hd' R hR => ?_) ?_
      · (try simp only [G_int.s0, wpSs, wpS, wpE, wpA, wpC, wpT, wpTss, wpI, wpAnds, wpOrs, bindT, getS, setS, setsS, outS, slD, Pr.w, Pr.aw, pAdd, pInt, pMul, pCmp, pEq, pIsN, pLt, pLen, pAbs, pNeg, pInt1, pBool, pIsi, pIx, pSlc, pTupD, pLstD, pTupOf, pLstOf, pSum, pBs, pTwo, isNon, isIns, isTp, truth, items, ent, List.replicate, List.cons_append, List.nil_append, Rv.d, bodyP, at0, at1, at2, at3, at4, atm1, ixn1, ixn2, ixn3, set51, set52, set53, get51, D.int.injEq, D.bl.injEq, D.tup.injEq, D.lst.injEq, D.str.injEq, Sl.own.injEq, Sl.val.injEq, Rv.v.injEq, Rv.fr.injEq, Option.some.injEq, List.cons.injEq, exists_eq_left, exists_eq_left', exists_eq, exists_eq', exists_const, exists_and_left, true_and, and_true, true_implies, forall_const, Bool.false_eq_true, Bool.true_eq_false, false_implies, implies_true, decide_eq_true_eq, decide_eq_false_iff_not, Nat.reduceSub, Nat.reduceAdd, id_eq, List.length_cons, List.length_nil, List.length_append, reduceCtorEq, and_self, ite_true, ite_false, if_true, if_false, Bool.not_true, Bool.not_false, Bool.not_eq_true', Bool.not_eq_false', outP1, outP2, outP3, noOwn, wipeS, restS, false_and, and_false, eq_self_iff_true, not_true_eq_false, not_false_eq_true, decide_true, decide_false])
        refine ⟨d, rfl, (hx xs rfl).2 d hd', ?_⟩
        rcases isInt_or d with ⟨a, rfl⟩ | hx0
        · rw [show isInt (.int a) = true from rfl]
          (try simp only [wpSs, wpS, wpE, wpA, wpC, wpT, wpTss, wpI, wpAnds, wpOrs, bindT, getS, setS, setsS, outS, slD, Pr.w, Pr.aw, pAdd, pInt, pMul, pCmp, pEq, pIsN, pLt, pLen, pAbs, pNeg, pInt1, pBool, pIsi, pIx, pSlc, pTupD, pLstD, pTupOf, pLstOf, pSum, pBs, pTwo, isNon, isIns, isTp, truth, items, ent, List.replicate, List.cons_append, List.nil_append, Rv.d, bodyP, at0, at1, at2, at3, at4, atm1, ixn1, ixn2, ixn3, set51, set52, set53, get51, D.int.injEq, D.bl.injEq, D.tup.injEq, D.lst.injEq, D.str.injEq, Sl.own.injEq, Sl.val.injEq, Rv.v.injEq, Rv.fr.injEq, Option.some.injEq, List.cons.injEq, exists_eq_left, exists_eq_left', exists_eq, exists_eq', exists_const, exists_and_left, true_and, and_true, true_implies, forall_const, Bool.false_eq_true, Bool.true_eq_false, false_implies, implies_true, decide_eq_true_eq, decide_eq_false_iff_not, Nat.reduceSub, Nat.reduceAdd, id_eq, List.length_cons, List.length_nil, List.length_append, reduceCtorEq, and_self, ite_true, ite_false, if_true, if_false, Bool.not_true, Bool.not_false, Bool.not_eq_true', Bool.not_eq_false', outP1, outP2, outP3, noOwn, wipeS, restS, false_and, and_false, eq_self_iff_true, not_true_eq_false, not_false_eq_true, decide_true, decide_false])
          exact hR
        · rw [hx0]
          (try simp only [wpSs, wpS, wpE, wpA, wpC, wpT, wpTss, wpI, wpAnds, wpOrs, bindT, getS, setS, setsS, outS, slD, Pr.w, Pr.aw, pAdd, pInt, pMul, pCmp, pEq, pIsN, pLt, pLen, pAbs, pNeg, pInt1, pBool, pIsi, pIx, pSlc, pTupD, pLstD, pTupOf, pLstOf, pSum, pBs, pTwo, isNon, isIns, isTp, truth, items, ent, List.replicate, List.cons_append, List.nil_append, Rv.d, bodyP, at0, at1, at2, at3, at4, atm1, ixn1, ixn2, ixn3, set51, set52, set53, get51, D.int.injEq, D.bl.injEq, D.tup.injEq, D.lst.injEq, D.str.injEq, Sl.own.injEq, Sl.val.injEq, Rv.v.injEq, Rv.fr.injEq, Option.some.injEq, List.cons.injEq, exists_eq_left, exists_eq_left', exists_eq, exists_eq', exists_const, exists_and_left, true_and, and_true, true_implies, forall_const, Bool.false_eq_true, Bool.true_eq_false, false_implies, implies_true, decide_eq_true_eq, decide_eq_false_iff_not, Nat.reduceSub, Nat.reduceAdd, id_eq, List.length_cons, List.length_nil, List.length_append, reduceCtorEq, and_self, ite_true, ite_false, if_true, if_false, Bool.not_true, Bool.not_false, Bool.not_eq_true', Bool.not_eq_false', outP1, outP2, outP3, noOwn, wipeS, restS, false_and, and_false, eq_self_iff_true, not_true_eq_false, not_false_eq_true, decide_true, decide_false])
          have g0 : geB m d = false := by
            cases d <;> first
              | rfl
              | (cases hx0; done)
          rw [g0] at hR
          exact hR
      · (try simp only [wpSs, wpS, wpE, wpA, wpC, wpT, wpTss, wpI, wpAnds, wpOrs, bindT, getS, setS, setsS, outS, slD, Pr.w, Pr.aw, pAdd, pInt, pMul, pCmp, pEq, pIsN, pLt, pLen, pAbs, pNeg, pInt1, pBool, pIsi, pIx, pSlc, pTupD, pLstD, pTupOf, pLstOf, pSum, pBs, pTwo, isNon, isIns, isTp, truth, items, ent, List.replicate, List.cons_append, List.nil_append, Rv.d, bodyP, at0, at1, at2, at3, at4, atm1, ixn1, ixn2, ixn3, set51, set52, set53, get51, D.int.injEq, D.bl.injEq, D.tup.injEq, D.lst.injEq, D.str.injEq, Sl.own.injEq, Sl.val.injEq, Rv.v.injEq, Rv.fr.injEq, Option.some.injEq, List.cons.injEq, exists_eq_left, exists_eq_left', exists_eq, exists_eq', exists_const, exists_and_left, true_and, and_true, true_implies, forall_const, Bool.false_eq_true, Bool.true_eq_false, false_implies, implies_true, decide_eq_true_eq, decide_eq_false_iff_not, Nat.reduceSub, Nat.reduceAdd, id_eq, List.length_cons, List.length_nil, List.length_append, reduceCtorEq, and_self, ite_true, ite_false, if_true, if_false, Bool.not_true, Bool.not_false, Bool.not_eq_true', Bool.not_eq_false', outP1, outP2, outP3, noOwn, wipeS, restS, false_and, and_false, eq_self_iff_true, not_true_eq_false, not_false_eq_true, decide_true, decide_false])
        refine ⟨xs.map (geB m), all_bl xs (geB m), ?_⟩
        rw [List.all_map]
        exact hq
    subst hk_law_is_ints_b1
    refine ⟨key, fun h => ⟨fun _ => ?_, fun h' => absurd h' h⟩⟩
    (try subst hk_law_is_ints_b0t0); unfold law_is_ints.b0t0; simp only [wpSs, wpS, wpE, wpA, wpC, wpT, wpTss, wpI, wpAnds, wpOrs, bindT, getS, setS, setsS, outS, slD, Pr.w, Pr.aw, pAdd, pInt, pMul, pCmp, pEq, pIsN, pLt, pLen, pAbs, pNeg, pInt1, pBool, pIsi, pIx, pSlc, pTupD, pLstD, pTupOf, pLstOf, pSum, pBs, pTwo, isNon, isIns, isTp, truth, items, ent, List.replicate, List.cons_append, List.nil_append, Rv.d, bodyP, at0, at1, at2, at3, at4, atm1, ixn1, ixn2, ixn3, set51, set52, set53, get51, D.int.injEq, D.bl.injEq, D.tup.injEq, D.lst.injEq, D.str.injEq, Sl.own.injEq, Sl.val.injEq, Rv.v.injEq, Rv.fr.injEq, Option.some.injEq, List.cons.injEq, exists_eq_left, exists_eq_left', exists_eq, exists_eq', exists_const, exists_and_left, true_and, and_true, true_implies, forall_const, Bool.false_eq_true, Bool.true_eq_false, false_implies, implies_true, decide_eq_true_eq, decide_eq_false_iff_not, Nat.reduceSub, Nat.reduceAdd, id_eq, List.length_cons, List.length_nil, List.length_append, reduceCtorEq, and_self, ite_true, ite_false, if_true, if_false, Bool.not_true, Bool.not_false, Bool.not_eq_true', Bool.not_eq_false', outP1, outP2, outP3, noOwn, wipeS, restS, false_and, and_false, eq_self_iff_true, not_true_eq_false, not_false_eq_true, decide_true, decide_false]
    rw [decide_eq_false h, Bool.false_and] at hq
    exact hq
  all_goals ((try subst hk_law_is_ints_b0t0); unfold law_is_ints.b0t0; simp only [wpSs, wpS, wpE, wpA, wpC, wpT, wpTss, wpI, wpAnds, wpOrs, bindT, getS, setS, setsS, outS, slD, Pr.w, Pr.aw, pAdd, pInt, pMul, pCmp, pEq, pIsN, pLt, pLen, pAbs, pNeg, pInt1, pBool, pIsi, pIx, pSlc, pTupD, pLstD, pTupOf, pLstOf, pSum, pBs, pTwo, isNon, isIns, isTp, truth, items, ent, List.replicate, List.cons_append, List.nil_append, Rv.d, bodyP, at0, at1, at2, at3, at4, atm1, ixn1, ixn2, ixn3, set51, set52, set53, get51, D.int.injEq, D.bl.injEq, D.tup.injEq, D.lst.injEq, D.str.injEq, Sl.own.injEq, Sl.val.injEq, Rv.v.injEq, Rv.fr.injEq, Option.some.injEq, List.cons.injEq, exists_eq_left, exists_eq_left', exists_eq, exists_eq', exists_const, exists_and_left, true_and, and_true, true_implies, forall_const, Bool.false_eq_true, Bool.true_eq_false, false_implies, implies_true, decide_eq_true_eq, decide_eq_false_iff_not, Nat.reduceSub, Nat.reduceAdd, id_eq, List.length_cons, List.length_nil, List.length_append, reduceCtorEq, and_self, ite_true, ite_false, if_true, if_false, Bool.not_true, Bool.not_false, Bool.not_eq_true', Bool.not_eq_false', outP1, outP2, outP3, noOwn, wipeS, restS, false_and, and_false, eq_self_iff_true, not_true_eq_false, not_false_eq_true, decide_true, decide_false]; exact hq)
def sp_rare : DSp := fun ss Q _ => ∃ (ds : List D) (m : Int), ss = [.own ds, .val (.int m)] ∧ dO ds ∧ 0 < m ∧ m < 2 ^ 64 ∧ ∀ ds' b, dO ds' → Q (.v (.bl b)) [.own ds', .un]
theorem w_rare : ∀ ss Q E, ss.length = 2 → sp_rare ss Q E → wpSs G_num law_rare.b0 (ent ss 0) (bodyP ss Q E) := by
  rintro ss Q E - ⟨ds, m, rfl, hd, h0, h1, hq⟩
  (try subst hk_law_rare_b0); unfold law_rare.b0; simp only [G_num.s0, wpSs, wpS, wpE, wpA, wpC, wpT, wpTss, wpI, wpAnds, wpOrs, bindT, getS, setS, setsS, outS, slD, Pr.w, Pr.aw, pAdd, pInt, pMul, pCmp, pEq, pIsN, pLt, pLen, pAbs, pNeg, pInt1, pBool, pIsi, pIx, pSlc, pTupD, pLstD, pTupOf, pLstOf, pSum, pBs, pTwo, isNon, isIns, isTp, truth, items, ent, List.replicate, List.cons_append, List.nil_append, Rv.d, bodyP, at0, at1, at2, at3, at4, atm1, ixn1, ixn2, ixn3, set51, set52, set53, get51, D.int.injEq, D.bl.injEq, D.tup.injEq, D.lst.injEq, D.str.injEq, Sl.own.injEq, Sl.val.injEq, Rv.v.injEq, Rv.fr.injEq, Option.some.injEq, List.cons.injEq, exists_eq_left, exists_eq_left', exists_eq, exists_eq', exists_const, exists_and_left, true_and, and_true, true_implies, forall_const, Bool.false_eq_true, Bool.true_eq_false, false_implies, implies_true, decide_eq_true_eq, decide_eq_false_iff_not, Nat.reduceSub, Nat.reduceAdd, id_eq, List.length_cons, List.length_nil, List.length_append, reduceCtorEq, and_self, ite_true, ite_false, if_true, if_false, Bool.not_true, Bool.not_false, Bool.not_eq_true', Bool.not_eq_false', outP1, outP2, outP3, noOwn, wipeS, restS, false_and, and_false, eq_self_iff_true, not_true_eq_false, not_false_eq_true, decide_true, decide_false]
  refine ⟨ds, m, rfl, hd, h0, h1, fun d1 r hd1 r0 r1 => ?_⟩
  (try simp only [deq_int, plain_int, wpSs, wpS, wpE, wpA, wpC, wpT, wpTss, wpI, wpAnds, wpOrs, bindT, getS, setS, setsS, outS, slD, Pr.w, Pr.aw, pAdd, pInt, pMul, pCmp, pEq, pIsN, pLt, pLen, pAbs, pNeg, pInt1, pBool, pIsi, pIx, pSlc, pTupD, pLstD, pTupOf, pLstOf, pSum, pBs, pTwo, isNon, isIns, isTp, truth, items, ent, List.replicate, List.cons_append, List.nil_append, Rv.d, bodyP, at0, at1, at2, at3, at4, atm1, ixn1, ixn2, ixn3, set51, set52, set53, get51, D.int.injEq, D.bl.injEq, D.tup.injEq, D.lst.injEq, D.str.injEq, Sl.own.injEq, Sl.val.injEq, Rv.v.injEq, Rv.fr.injEq, Option.some.injEq, List.cons.injEq, exists_eq_left, exists_eq_left', exists_eq, exists_eq', exists_const, exists_and_left, true_and, and_true, true_implies, forall_const, Bool.false_eq_true, Bool.true_eq_false, false_implies, implies_true, decide_eq_true_eq, decide_eq_false_iff_not, Nat.reduceSub, Nat.reduceAdd, id_eq, List.length_cons, List.length_nil, List.length_append, reduceCtorEq, and_self, ite_true, ite_false, if_true, if_false, Bool.not_true, Bool.not_false, Bool.not_eq_true', Bool.not_eq_false', outP1, outP2, outP3, noOwn, wipeS, restS, false_and, and_false, eq_self_iff_true, not_true_eq_false, not_false_eq_true, decide_true, decide_false])
  exact ⟨divOk_s (by decide) (by decide), hq _ _ hd1⟩
def G_part : Gam := [("_law_draw", 2, sp_draw), ("_law_number", 1, sp_number)]
theorem G_part.s0 : gam G_part 0 = sp_draw := rfl
theorem G_part.s1 : gam G_part 1 = sp_number := rfl
def sp_part : DSp := fun ss Q _ => ∃ ds : List D, ss = [.own ds] ∧ dO ds ∧ ∀ ds' r, dO ds' → Bt 130 r → Q (.v (.int r)) [.own ds']
theorem bt_small {r : Int} (h1 : -1000 < r) (h2 : r < 1000) : Bt 130 r := by
  refine Bt.mono (n := 10) ?_ (by omega)
  unfold Bt
  omega
theorem w_part : ∀ ss Q E, ss.length = 1 → sp_part ss Q E → wpSs G_part law_part.b0 (ent ss 2) (bodyP ss Q E) := by
  rintro ss Q E - ⟨ds, rfl, hd, hq⟩
  (try subst hk_law_part_b0); unfold law_part.b0; obtain ⟨k_law_part_b1, hk_law_part_b1⟩ : ∃ k, k = law_part.b1 := ⟨_, rfl⟩; rw [← hk_law_part_b1]; simp only [G_part.s0, wpSs, wpS, wpE, wpA, wpC, wpT, wpTss, wpI, wpAnds, wpOrs, bindT, getS, setS, setsS, outS, slD, Pr.w, Pr.aw, pAdd, pInt, pMul, pCmp, pEq, pIsN, pLt, pLen, pAbs, pNeg, pInt1, pBool, pIsi, pIx, pSlc, pTupD, pLstD, pTupOf, pLstOf, pSum, pBs, pTwo, isNon, isIns, isTp, truth, items, ent, List.replicate, List.cons_append, List.nil_append, Rv.d, bodyP, at0, at1, at2, at3, at4, atm1, ixn1, ixn2, ixn3, set51, set52, set53, get51, D.int.injEq, D.bl.injEq, D.tup.injEq, D.lst.injEq, D.str.injEq, Sl.own.injEq, Sl.val.injEq, Rv.v.injEq, Rv.fr.injEq, Option.some.injEq, List.cons.injEq, exists_eq_left, exists_eq_left', exists_eq, exists_eq', exists_const, exists_and_left, true_and, and_true, true_implies, forall_const, Bool.false_eq_true, Bool.true_eq_false, false_implies, implies_true, decide_eq_true_eq, decide_eq_false_iff_not, Nat.reduceSub, Nat.reduceAdd, id_eq, List.length_cons, List.length_nil, List.length_append, reduceCtorEq, and_self, ite_true, ite_false, if_true, if_false, Bool.not_true, Bool.not_false, Bool.not_eq_true', Bool.not_eq_false', outP1, outP2, outP3, noOwn, wipeS, restS, false_and, and_false, eq_self_iff_true, not_true_eq_false, not_false_eq_true, decide_true, decide_false]
  refine ⟨ds, 6, rfl, hd, by decide, by decide, fun d1 w h1 hw0 hw1 => ?_⟩
  (try simp only [wpSs, wpS, wpE, wpA, wpC, wpT, wpTss, wpI, wpAnds, wpOrs, bindT, getS, setS, setsS, outS, slD, Pr.w, Pr.aw, pAdd, pInt, pMul, pCmp, pEq, pIsN, pLt, pLen, pAbs, pNeg, pInt1, pBool, pIsi, pIx, pSlc, pTupD, pLstD, pTupOf, pLstOf, pSum, pBs, pTwo, isNon, isIns, isTp, truth, items, ent, List.replicate, List.cons_append, List.nil_append, Rv.d, bodyP, at0, at1, at2, at3, at4, atm1, ixn1, ixn2, ixn3, set51, set52, set53, get51, D.int.injEq, D.bl.injEq, D.tup.injEq, D.lst.injEq, D.str.injEq, Sl.own.injEq, Sl.val.injEq, Rv.v.injEq, Rv.fr.injEq, Option.some.injEq, List.cons.injEq, exists_eq_left, exists_eq_left', exists_eq, exists_eq', exists_const, exists_and_left, true_and, and_true, true_implies, forall_const, Bool.false_eq_true, Bool.true_eq_false, false_implies, implies_true, decide_eq_true_eq, decide_eq_false_iff_not, Nat.reduceSub, Nat.reduceAdd, id_eq, List.length_cons, List.length_nil, List.length_append, reduceCtorEq, and_self, ite_true, ite_false, if_true, if_false, Bool.not_true, Bool.not_false, Bool.not_eq_true', Bool.not_eq_false', outP1, outP2, outP3, noOwn, wipeS, restS, false_and, and_false, eq_self_iff_true, not_true_eq_false, not_false_eq_true, decide_true, decide_false])
  (try subst hk_law_part_b1); unfold law_part.b1; obtain ⟨k_law_part_b1t0, hk_law_part_b1t0⟩ : ∃ k, k = law_part.b1t0 := ⟨_, rfl⟩; rw [← hk_law_part_b1t0]; obtain ⟨k_law_part_b2, hk_law_part_b2⟩ : ∃ k, k = law_part.b2 := ⟨_, rfl⟩; rw [← hk_law_part_b2]; simp only [wpSs, wpS, wpE, wpA, wpC, wpT, wpTss, wpI, wpAnds, wpOrs, bindT, getS, setS, setsS, outS, slD, Pr.w, Pr.aw, pAdd, pInt, pMul, pCmp, pEq, pIsN, pLt, pLen, pAbs, pNeg, pInt1, pBool, pIsi, pIx, pSlc, pTupD, pLstD, pTupOf, pLstOf, pSum, pBs, pTwo, isNon, isIns, isTp, truth, items, ent, List.replicate, List.cons_append, List.nil_append, Rv.d, bodyP, at0, at1, at2, at3, at4, atm1, ixn1, ixn2, ixn3, set51, set52, set53, get51, D.int.injEq, D.bl.injEq, D.tup.injEq, D.lst.injEq, D.str.injEq, Sl.own.injEq, Sl.val.injEq, Rv.v.injEq, Rv.fr.injEq, Option.some.injEq, List.cons.injEq, exists_eq_left, exists_eq_left', exists_eq, exists_eq', exists_const, exists_and_left, true_and, and_true, true_implies, forall_const, Bool.false_eq_true, Bool.true_eq_false, false_implies, implies_true, decide_eq_true_eq, decide_eq_false_iff_not, Nat.reduceSub, Nat.reduceAdd, id_eq, List.length_cons, List.length_nil, List.length_append, reduceCtorEq, and_self, ite_true, ite_false, if_true, if_false, Bool.not_true, Bool.not_false, Bool.not_eq_true', Bool.not_eq_false', outP1, outP2, outP3, noOwn, wipeS, restS, false_and, and_false, eq_self_iff_true, not_true_eq_false, not_false_eq_true, decide_true, decide_false]
  refine ⟨fun h => ?_, fun h => ?_⟩
  · (try subst hk_law_part_b1t0); unfold law_part.b1t0; simp only [G_part.s0, wpSs, wpS, wpE, wpA, wpC, wpT, wpTss, wpI, wpAnds, wpOrs, bindT, getS, setS, setsS, outS, slD, Pr.w, Pr.aw, pAdd, pInt, pMul, pCmp, pEq, pIsN, pLt, pLen, pAbs, pNeg, pInt1, pBool, pIsi, pIx, pSlc, pTupD, pLstD, pTupOf, pLstOf, pSum, pBs, pTwo, isNon, isIns, isTp, truth, items, ent, List.replicate, List.cons_append, List.nil_append, Rv.d, bodyP, at0, at1, at2, at3, at4, atm1, ixn1, ixn2, ixn3, set51, set52, set53, get51, D.int.injEq, D.bl.injEq, D.tup.injEq, D.lst.injEq, D.str.injEq, Sl.own.injEq, Sl.val.injEq, Rv.v.injEq, Rv.fr.injEq, Option.some.injEq, List.cons.injEq, exists_eq_left, exists_eq_left', exists_eq, exists_eq', exists_const, exists_and_left, true_and, and_true, true_implies, forall_const, Bool.false_eq_true, Bool.true_eq_false, false_implies, implies_true, decide_eq_true_eq, decide_eq_false_iff_not, Nat.reduceSub, Nat.reduceAdd, id_eq, List.length_cons, List.length_nil, List.length_append, reduceCtorEq, and_self, ite_true, ite_false, if_true, if_false, Bool.not_true, Bool.not_false, Bool.not_eq_true', Bool.not_eq_false', outP1, outP2, outP3, noOwn, wipeS, restS, false_and, and_false, eq_self_iff_true, not_true_eq_false, not_false_eq_true, decide_true, decide_false]
    refine ⟨d1, 4, rfl, h1, by decide, by decide, fun d2 r h2 r0 r1 => ?_⟩
    (try simp only [wpSs, wpS, wpE, wpA, wpC, wpT, wpTss, wpI, wpAnds, wpOrs, bindT, getS, setS, setsS, outS, slD, Pr.w, Pr.aw, pAdd, pInt, pMul, pCmp, pEq, pIsN, pLt, pLen, pAbs, pNeg, pInt1, pBool, pIsi, pIx, pSlc, pTupD, pLstD, pTupOf, pLstOf, pSum, pBs, pTwo, isNon, isIns, isTp, truth, items, ent, List.replicate, List.cons_append, List.nil_append, Rv.d, bodyP, at0, at1, at2, at3, at4, atm1, ixn1, ixn2, ixn3, set51, set52, set53, get51, D.int.injEq, D.bl.injEq, D.tup.injEq, D.lst.injEq, D.str.injEq, Sl.own.injEq, Sl.val.injEq, Rv.v.injEq, Rv.fr.injEq, Option.some.injEq, List.cons.injEq, exists_eq_left, exists_eq_left', exists_eq, exists_eq', exists_const, exists_and_left, true_and, and_true, true_implies, forall_const, Bool.false_eq_true, Bool.true_eq_false, false_implies, implies_true, decide_eq_true_eq, decide_eq_false_iff_not, Nat.reduceSub, Nat.reduceAdd, id_eq, List.length_cons, List.length_nil, List.length_append, reduceCtorEq, and_self, ite_true, ite_false, if_true, if_false, Bool.not_true, Bool.not_false, Bool.not_eq_true', Bool.not_eq_false', outP1, outP2, outP3, noOwn, wipeS, restS, false_and, and_false, eq_self_iff_true, not_true_eq_false, not_false_eq_true, decide_true, decide_false])
    exact hq d2 _ h2 (bt_small (by omega) (by omega))
  (try subst hk_law_part_b2); unfold law_part.b2; obtain ⟨k_law_part_b2t0, hk_law_part_b2t0⟩ : ∃ k, k = law_part.b2t0 := ⟨_, rfl⟩; rw [← hk_law_part_b2t0]; obtain ⟨k_law_part_b3, hk_law_part_b3⟩ : ∃ k, k = law_part.b3 := ⟨_, rfl⟩; rw [← hk_law_part_b3]; simp only [deq_int, plain_int, wpSs, wpS, wpE, wpA, wpC, wpT, wpTss, wpI, wpAnds, wpOrs, bindT, getS, setS, setsS, outS, slD, Pr.w, Pr.aw, pAdd, pInt, pMul, pCmp, pEq, pIsN, pLt, pLen, pAbs, pNeg, pInt1, pBool, pIsi, pIx, pSlc, pTupD, pLstD, pTupOf, pLstOf, pSum, pBs, pTwo, isNon, isIns, isTp, truth, items, ent, List.replicate, List.cons_append, List.nil_append, Rv.d, bodyP, at0, at1, at2, at3, at4, atm1, ixn1, ixn2, ixn3, set51, set52, set53, get51, D.int.injEq, D.bl.injEq, D.tup.injEq, D.lst.injEq, D.str.injEq, Sl.own.injEq, Sl.val.injEq, Rv.v.injEq, Rv.fr.injEq, Option.some.injEq, List.cons.injEq, exists_eq_left, exists_eq_left', exists_eq, exists_eq', exists_const, exists_and_left, true_and, and_true, true_implies, forall_const, Bool.false_eq_true, Bool.true_eq_false, false_implies, implies_true, decide_eq_true_eq, decide_eq_false_iff_not, Nat.reduceSub, Nat.reduceAdd, id_eq, List.length_cons, List.length_nil, List.length_append, reduceCtorEq, and_self, ite_true, ite_false, if_true, if_false, Bool.not_true, Bool.not_false, Bool.not_eq_true', Bool.not_eq_false', outP1, outP2, outP3, noOwn, wipeS, restS, false_and, and_false, eq_self_iff_true, not_true_eq_false, not_false_eq_true, decide_true, decide_false]
  refine ⟨fun h => ?_, fun h => ?_⟩
  · (try subst hk_law_part_b2t0); unfold law_part.b2t0; simp only [G_part.s0, wpSs, wpS, wpE, wpA, wpC, wpT, wpTss, wpI, wpAnds, wpOrs, bindT, getS, setS, setsS, outS, slD, Pr.w, Pr.aw, pAdd, pInt, pMul, pCmp, pEq, pIsN, pLt, pLen, pAbs, pNeg, pInt1, pBool, pIsi, pIx, pSlc, pTupD, pLstD, pTupOf, pLstOf, pSum, pBs, pTwo, isNon, isIns, isTp, truth, items, ent, List.replicate, List.cons_append, List.nil_append, Rv.d, bodyP, at0, at1, at2, at3, at4, atm1, ixn1, ixn2, ixn3, set51, set52, set53, get51, D.int.injEq, D.bl.injEq, D.tup.injEq, D.lst.injEq, D.str.injEq, Sl.own.injEq, Sl.val.injEq, Rv.v.injEq, Rv.fr.injEq, Option.some.injEq, List.cons.injEq, exists_eq_left, exists_eq_left', exists_eq, exists_eq', exists_const, exists_and_left, true_and, and_true, true_implies, forall_const, Bool.false_eq_true, Bool.true_eq_false, false_implies, implies_true, decide_eq_true_eq, decide_eq_false_iff_not, Nat.reduceSub, Nat.reduceAdd, id_eq, List.length_cons, List.length_nil, List.length_append, reduceCtorEq, and_self, ite_true, ite_false, if_true, if_false, Bool.not_true, Bool.not_false, Bool.not_eq_true', Bool.not_eq_false', outP1, outP2, outP3, noOwn, wipeS, restS, false_and, and_false, eq_self_iff_true, not_true_eq_false, not_false_eq_true, decide_true, decide_false]
    refine ⟨d1, 8, rfl, h1, by decide, by decide, fun d2 r h2 r0 r1 => ?_⟩
    (try simp only [wpSs, wpS, wpE, wpA, wpC, wpT, wpTss, wpI, wpAnds, wpOrs, bindT, getS, setS, setsS, outS, slD, Pr.w, Pr.aw, pAdd, pInt, pMul, pCmp, pEq, pIsN, pLt, pLen, pAbs, pNeg, pInt1, pBool, pIsi, pIx, pSlc, pTupD, pLstD, pTupOf, pLstOf, pSum, pBs, pTwo, isNon, isIns, isTp, truth, items, ent, List.replicate, List.cons_append, List.nil_append, Rv.d, bodyP, at0, at1, at2, at3, at4, atm1, ixn1, ixn2, ixn3, set51, set52, set53, get51, D.int.injEq, D.bl.injEq, D.tup.injEq, D.lst.injEq, D.str.injEq, Sl.own.injEq, Sl.val.injEq, Rv.v.injEq, Rv.fr.injEq, Option.some.injEq, List.cons.injEq, exists_eq_left, exists_eq_left', exists_eq, exists_eq', exists_const, exists_and_left, true_and, and_true, true_implies, forall_const, Bool.false_eq_true, Bool.true_eq_false, false_implies, implies_true, decide_eq_true_eq, decide_eq_false_iff_not, Nat.reduceSub, Nat.reduceAdd, id_eq, List.length_cons, List.length_nil, List.length_append, reduceCtorEq, and_self, ite_true, ite_false, if_true, if_false, Bool.not_true, Bool.not_false, Bool.not_eq_true', Bool.not_eq_false', outP1, outP2, outP3, noOwn, wipeS, restS, false_and, and_false, eq_self_iff_true, not_true_eq_false, not_false_eq_true, decide_true, decide_false])
    exact hq d2 _ h2 (bt_small (by omega) (by omega))
  (try subst hk_law_part_b3); unfold law_part.b3; obtain ⟨k_law_part_b3t0, hk_law_part_b3t0⟩ : ∃ k, k = law_part.b3t0 := ⟨_, rfl⟩; rw [← hk_law_part_b3t0]; obtain ⟨k_law_part_b4, hk_law_part_b4⟩ : ∃ k, k = law_part.b4 := ⟨_, rfl⟩; rw [← hk_law_part_b4]; simp only [deq_int, plain_int, wpSs, wpS, wpE, wpA, wpC, wpT, wpTss, wpI, wpAnds, wpOrs, bindT, getS, setS, setsS, outS, slD, Pr.w, Pr.aw, pAdd, pInt, pMul, pCmp, pEq, pIsN, pLt, pLen, pAbs, pNeg, pInt1, pBool, pIsi, pIx, pSlc, pTupD, pLstD, pTupOf, pLstOf, pSum, pBs, pTwo, isNon, isIns, isTp, truth, items, ent, List.replicate, List.cons_append, List.nil_append, Rv.d, bodyP, at0, at1, at2, at3, at4, atm1, ixn1, ixn2, ixn3, set51, set52, set53, get51, D.int.injEq, D.bl.injEq, D.tup.injEq, D.lst.injEq, D.str.injEq, Sl.own.injEq, Sl.val.injEq, Rv.v.injEq, Rv.fr.injEq, Option.some.injEq, List.cons.injEq, exists_eq_left, exists_eq_left', exists_eq, exists_eq', exists_const, exists_and_left, true_and, and_true, true_implies, forall_const, Bool.false_eq_true, Bool.true_eq_false, false_implies, implies_true, decide_eq_true_eq, decide_eq_false_iff_not, Nat.reduceSub, Nat.reduceAdd, id_eq, List.length_cons, List.length_nil, List.length_append, reduceCtorEq, and_self, ite_true, ite_false, if_true, if_false, Bool.not_true, Bool.not_false, Bool.not_eq_true', Bool.not_eq_false', outP1, outP2, outP3, noOwn, wipeS, restS, false_and, and_false, eq_self_iff_true, not_true_eq_false, not_false_eq_true, decide_true, decide_false]
  refine ⟨fun h => ?_, fun h => ?_⟩
  · (try subst hk_law_part_b3t0); unfold law_part.b3t0; simp only [wpSs, wpS, wpE, wpA, wpC, wpT, wpTss, wpI, wpAnds, wpOrs, bindT, getS, setS, setsS, outS, slD, Pr.w, Pr.aw, pAdd, pInt, pMul, pCmp, pEq, pIsN, pLt, pLen, pAbs, pNeg, pInt1, pBool, pIsi, pIx, pSlc, pTupD, pLstD, pTupOf, pLstOf, pSum, pBs, pTwo, isNon, isIns, isTp, truth, items, ent, List.replicate, List.cons_append, List.nil_append, Rv.d, bodyP, at0, at1, at2, at3, at4, atm1, ixn1, ixn2, ixn3, set51, set52, set53, get51, D.int.injEq, D.bl.injEq, D.tup.injEq, D.lst.injEq, D.str.injEq, Sl.own.injEq, Sl.val.injEq, Rv.v.injEq, Rv.fr.injEq, Option.some.injEq, List.cons.injEq, exists_eq_left, exists_eq_left', exists_eq, exists_eq', exists_const, exists_and_left, true_and, and_true, true_implies, forall_const, Bool.false_eq_true, Bool.true_eq_false, false_implies, implies_true, decide_eq_true_eq, decide_eq_false_iff_not, Nat.reduceSub, Nat.reduceAdd, id_eq, List.length_cons, List.length_nil, List.length_append, reduceCtorEq, and_self, ite_true, ite_false, if_true, if_false, Bool.not_true, Bool.not_false, Bool.not_eq_true', Bool.not_eq_false', outP1, outP2, outP3, noOwn, wipeS, restS, false_and, and_false, eq_self_iff_true, not_true_eq_false, not_false_eq_true, decide_true, decide_false]
    exact hq d1 _ h1 (bt_small (by omega) (by omega))
  (try subst hk_law_part_b4); unfold law_part.b4; obtain ⟨k_law_part_b5, hk_law_part_b5⟩ : ∃ k, k = law_part.b5 := ⟨_, rfl⟩; rw [← hk_law_part_b5]; simp only [G_part.s1, wpSs, wpS, wpE, wpA, wpC, wpT, wpTss, wpI, wpAnds, wpOrs, bindT, getS, setS, setsS, outS, slD, Pr.w, Pr.aw, pAdd, pInt, pMul, pCmp, pEq, pIsN, pLt, pLen, pAbs, pNeg, pInt1, pBool, pIsi, pIx, pSlc, pTupD, pLstD, pTupOf, pLstOf, pSum, pBs, pTwo, isNon, isIns, isTp, truth, items, ent, List.replicate, List.cons_append, List.nil_append, Rv.d, bodyP, at0, at1, at2, at3, at4, atm1, ixn1, ixn2, ixn3, set51, set52, set53, get51, D.int.injEq, D.bl.injEq, D.tup.injEq, D.lst.injEq, D.str.injEq, Sl.own.injEq, Sl.val.injEq, Rv.v.injEq, Rv.fr.injEq, Option.some.injEq, List.cons.injEq, exists_eq_left, exists_eq_left', exists_eq, exists_eq', exists_const, exists_and_left, true_and, and_true, true_implies, forall_const, Bool.false_eq_true, Bool.true_eq_false, false_implies, implies_true, decide_eq_true_eq, decide_eq_false_iff_not, Nat.reduceSub, Nat.reduceAdd, id_eq, List.length_cons, List.length_nil, List.length_append, reduceCtorEq, and_self, ite_true, ite_false, if_true, if_false, Bool.not_true, Bool.not_false, Bool.not_eq_true', Bool.not_eq_false', outP1, outP2, outP3, noOwn, wipeS, restS, false_and, and_false, eq_self_iff_true, not_true_eq_false, not_false_eq_true, decide_true, decide_false]
  refine ⟨d1, rfl, h1, fun d2 r h2 r0 r1 => ?_⟩
  (try simp only [wpSs, wpS, wpE, wpA, wpC, wpT, wpTss, wpI, wpAnds, wpOrs, bindT, getS, setS, setsS, outS, slD, Pr.w, Pr.aw, pAdd, pInt, pMul, pCmp, pEq, pIsN, pLt, pLen, pAbs, pNeg, pInt1, pBool, pIsi, pIx, pSlc, pTupD, pLstD, pTupOf, pLstOf, pSum, pBs, pTwo, isNon, isIns, isTp, truth, items, ent, List.replicate, List.cons_append, List.nil_append, Rv.d, bodyP, at0, at1, at2, at3, at4, atm1, ixn1, ixn2, ixn3, set51, set52, set53, get51, D.int.injEq, D.bl.injEq, D.tup.injEq, D.lst.injEq, D.str.injEq, Sl.own.injEq, Sl.val.injEq, Rv.v.injEq, Rv.fr.injEq, Option.some.injEq, List.cons.injEq, exists_eq_left, exists_eq_left', exists_eq, exists_eq', exists_const, exists_and_left, true_and, and_true, true_implies, forall_const, Bool.false_eq_true, Bool.true_eq_false, false_implies, implies_true, decide_eq_true_eq, decide_eq_false_iff_not, Nat.reduceSub, Nat.reduceAdd, id_eq, List.length_cons, List.length_nil, List.length_append, reduceCtorEq, and_self, ite_true, ite_false, if_true, if_false, Bool.not_true, Bool.not_false, Bool.not_eq_true', Bool.not_eq_false', outP1, outP2, outP3, noOwn, wipeS, restS, false_and, and_false, eq_self_iff_true, not_true_eq_false, not_false_eq_true, decide_true, decide_false])
  (try subst hk_law_part_b5); unfold law_part.b5; obtain ⟨k_law_part_b5t0, hk_law_part_b5t0⟩ : ∃ k, k = law_part.b5t0 := ⟨_, rfl⟩; rw [← hk_law_part_b5t0]; obtain ⟨k_law_part_b6, hk_law_part_b6⟩ : ∃ k, k = law_part.b6 := ⟨_, rfl⟩; rw [← hk_law_part_b6]; simp only [deq_int, plain_int, wpSs, wpS, wpE, wpA, wpC, wpT, wpTss, wpI, wpAnds, wpOrs, bindT, getS, setS, setsS, outS, slD, Pr.w, Pr.aw, pAdd, pInt, pMul, pCmp, pEq, pIsN, pLt, pLen, pAbs, pNeg, pInt1, pBool, pIsi, pIx, pSlc, pTupD, pLstD, pTupOf, pLstOf, pSum, pBs, pTwo, isNon, isIns, isTp, truth, items, ent, List.replicate, List.cons_append, List.nil_append, Rv.d, bodyP, at0, at1, at2, at3, at4, atm1, ixn1, ixn2, ixn3, set51, set52, set53, get51, D.int.injEq, D.bl.injEq, D.tup.injEq, D.lst.injEq, D.str.injEq, Sl.own.injEq, Sl.val.injEq, Rv.v.injEq, Rv.fr.injEq, Option.some.injEq, List.cons.injEq, exists_eq_left, exists_eq_left', exists_eq, exists_eq', exists_const, exists_and_left, true_and, and_true, true_implies, forall_const, Bool.false_eq_true, Bool.true_eq_false, false_implies, implies_true, decide_eq_true_eq, decide_eq_false_iff_not, Nat.reduceSub, Nat.reduceAdd, id_eq, List.length_cons, List.length_nil, List.length_append, reduceCtorEq, and_self, ite_true, ite_false, if_true, if_false, Bool.not_true, Bool.not_false, Bool.not_eq_true', Bool.not_eq_false', outP1, outP2, outP3, noOwn, wipeS, restS, false_and, and_false, eq_self_iff_true, not_true_eq_false, not_false_eq_true, decide_true, decide_false]
  refine ⟨fun h => ?_, fun h => ?_⟩
  · (try subst hk_law_part_b5t0); unfold law_part.b5t0; simp only [wpSs, wpS, wpE, wpA, wpC, wpT, wpTss, wpI, wpAnds, wpOrs, bindT, getS, setS, setsS, outS, slD, Pr.w, Pr.aw, pAdd, pInt, pMul, pCmp, pEq, pIsN, pLt, pLen, pAbs, pNeg, pInt1, pBool, pIsi, pIx, pSlc, pTupD, pLstD, pTupOf, pLstOf, pSum, pBs, pTwo, isNon, isIns, isTp, truth, items, ent, List.replicate, List.cons_append, List.nil_append, Rv.d, bodyP, at0, at1, at2, at3, at4, atm1, ixn1, ixn2, ixn3, set51, set52, set53, get51, D.int.injEq, D.bl.injEq, D.tup.injEq, D.lst.injEq, D.str.injEq, Sl.own.injEq, Sl.val.injEq, Rv.v.injEq, Rv.fr.injEq, Option.some.injEq, List.cons.injEq, exists_eq_left, exists_eq_left', exists_eq, exists_eq', exists_const, exists_and_left, true_and, and_true, true_implies, forall_const, Bool.false_eq_true, Bool.true_eq_false, false_implies, implies_true, decide_eq_true_eq, decide_eq_false_iff_not, Nat.reduceSub, Nat.reduceAdd, id_eq, List.length_cons, List.length_nil, List.length_append, reduceCtorEq, and_self, ite_true, ite_false, if_true, if_false, Bool.not_true, Bool.not_false, Bool.not_eq_true', Bool.not_eq_false', outP1, outP2, outP3, noOwn, wipeS, restS, false_and, and_false, eq_self_iff_true, not_true_eq_false, not_false_eq_true, decide_true, decide_false]
    exact hq d2 _ h2 (Bt.of_lt r0 r1)
  · (try subst hk_law_part_b6); unfold law_part.b6; simp only [wpSs, wpS, wpE, wpA, wpC, wpT, wpTss, wpI, wpAnds, wpOrs, bindT, getS, setS, setsS, outS, slD, Pr.w, Pr.aw, pAdd, pInt, pMul, pCmp, pEq, pIsN, pLt, pLen, pAbs, pNeg, pInt1, pBool, pIsi, pIx, pSlc, pTupD, pLstD, pTupOf, pLstOf, pSum, pBs, pTwo, isNon, isIns, isTp, truth, items, ent, List.replicate, List.cons_append, List.nil_append, Rv.d, bodyP, at0, at1, at2, at3, at4, atm1, ixn1, ixn2, ixn3, set51, set52, set53, get51, D.int.injEq, D.bl.injEq, D.tup.injEq, D.lst.injEq, D.str.injEq, Sl.own.injEq, Sl.val.injEq, Rv.v.injEq, Rv.fr.injEq, Option.some.injEq, List.cons.injEq, exists_eq_left, exists_eq_left', exists_eq, exists_eq', exists_const, exists_and_left, true_and, and_true, true_implies, forall_const, Bool.false_eq_true, Bool.true_eq_false, false_implies, implies_true, decide_eq_true_eq, decide_eq_false_iff_not, Nat.reduceSub, Nat.reduceAdd, id_eq, List.length_cons, List.length_nil, List.length_append, reduceCtorEq, and_self, ite_true, ite_false, if_true, if_false, Bool.not_true, Bool.not_false, Bool.not_eq_true', Bool.not_eq_false', outP1, outP2, outP3, noOwn, wipeS, restS, false_and, and_false, eq_self_iff_true, not_true_eq_false, not_false_eq_true, decide_true, decide_false]
    refine hq d2 _ h2 ?_
    rw [Int.zero_sub]
    exact (Bt.of_lt r0 r1).neg
end K02

set_option Elab.async false
set_option linter.all false
set_option maxRecDepth 100000
namespace K02
open PySem PySem.Spec L2 Pd
def G_rows : Gam := [("_law_part", 1, sp_part), ("_law_draw", 2, sp_draw)]
theorem G_rows.s0 : gam G_rows 0 = sp_part := rfl
theorem G_rows.s1 : gam G_rows 1 = sp_draw := rfl
def Ok' (n : Nat) (ns : List Int) : Prop := ns.length = n ∧ ∀ x ∈ ns, Bt 140 x
theorem Ok'.ok {n : Nat} {ns : List Int} (h : Ok' n ns) (hn : n ≤ 40) : Ok ns := ⟨by rw [h.1]; exact hn, fun x hx => (h.2 x hx).mono (by omega)⟩
theorem Ok'.snoc {n : Nat} {ns : List Int} {x : Int} (h : Ok' n ns) (hx : Bt 140 x) : Ok' (n + 1) (ns ++ [x]) := by
  refine ⟨by rw [List.length_append, h.1]; rfl, fun y hy => ?_⟩
  rcases List.mem_append.mp hy with z | z
  · exact h.2 y z
  · rw [List.mem_singleton.mp z]; exact hx
theorem Ok'.nil : Ok' 0 [] := ⟨rfl, fun x hx => by cases hx⟩
def sp_rows : DSp := fun ss Q _ => ∃ (ds : List D) (n : Nat), ss = [.own ds, .val (.int (n : Int))] ∧ dO ds ∧ n ≤ 40 ∧ ∀ ds' as bs, dO ds' → Ok' n as → Ok' n bs → Q (.v (.tup [rw' as, rw' bs])) [.own ds', .un]
theorem w_rows : ∀ ss Q E, ss.length = 2 → sp_rows ss Q E → wpSs G_rows law_rows.b0 (ent ss 4) (bodyP ss Q E) := by
  rintro ss Q E - ⟨ds, n, rfl, hd, hn, hq⟩
  (try subst hk_law_rows_b0); unfold law_rows.b0; obtain ⟨k_law_rows_b1, hk_law_rows_b1⟩ : ∃ k, k = law_rows.b1 := ⟨_, rfl⟩; rw [← hk_law_rows_b1]; simp only [wpSs, wpS, wpE, wpA, wpC, wpT, wpTss, wpI, wpAnds, wpOrs, bindT, getS, setS, setsS, outS, slD, Pr.w, Pr.aw, pAdd, pInt, pMul, pCmp, pEq, pIsN, pLt, pLen, pAbs, pNeg, pInt1, pBool, pIsi, pIx, pSlc, pTupD, pLstD, pTupOf, pLstOf, pSum, pBs, pTwo, isNon, isIns, isTp, truth, items, ent, List.replicate, List.cons_append, List.nil_append, Rv.d, bodyP, at0, at1, at2, at3, at4, atm1, ixn1, ixn2, ixn3, set51, set52, set53, get51, D.int.injEq, D.bl.injEq, D.tup.injEq, D.lst.injEq, D.str.injEq, Sl.own.injEq, Sl.val.injEq, Rv.v.injEq, Rv.fr.injEq, Option.some.injEq, List.cons.injEq, exists_eq_left, exists_eq_left', exists_eq, exists_eq', exists_const, exists_and_left, true_and, and_true, true_implies, forall_const, Bool.false_eq_true, Bool.true_eq_false, false_implies, implies_true, decide_eq_true_eq, decide_eq_false_iff_not, Nat.reduceSub, Nat.reduceAdd, id_eq, List.length_cons, List.length_nil, List.length_append, reduceCtorEq, and_self, ite_true, ite_false, if_true, if_false, Bool.not_true, Bool.not_false, Bool.not_eq_true', Bool.not_eq_false', outP1, outP2, outP3, noOwn, wipeS, restS, false_and, and_false, eq_self_iff_true, not_true_eq_false, not_false_eq_true, decide_true, decide_false]
  refine ⟨by decide, ?_⟩
  (try subst hk_law_rows_b1); unfold law_rows.b1; obtain ⟨k_law_rows_b2, hk_law_rows_b2⟩ : ∃ k, k = law_rows.b2 := ⟨_, rfl⟩; rw [← hk_law_rows_b2]; simp only [wpSs, wpS, wpE, wpA, wpC, wpT, wpTss, wpI, wpAnds, wpOrs, bindT, getS, setS, setsS, outS, slD, Pr.w, Pr.aw, pAdd, pInt, pMul, pCmp, pEq, pIsN, pLt, pLen, pAbs, pNeg, pInt1, pBool, pIsi, pIx, pSlc, pTupD, pLstD, pTupOf, pLstOf, pSum, pBs, pTwo, isNon, isIns, isTp, truth, items, ent, List.replicate, List.cons_append, List.nil_append, Rv.d, bodyP, at0, at1, at2, at3, at4, atm1, ixn1, ixn2, ixn3, set51, set52, set53, get51, D.int.injEq, D.bl.injEq, D.tup.injEq, D.lst.injEq, D.str.injEq, Sl.own.injEq, Sl.val.injEq, Rv.v.injEq, Rv.fr.injEq, Option.some.injEq, List.cons.injEq, exists_eq_left, exists_eq_left', exists_eq, exists_eq', exists_const, exists_and_left, true_and, and_true, true_implies, forall_const, Bool.false_eq_true, Bool.true_eq_false, false_implies, implies_true, decide_eq_true_eq, decide_eq_false_iff_not, Nat.reduceSub, Nat.reduceAdd, id_eq, List.length_cons, List.length_nil, List.length_append, reduceCtorEq, and_self, ite_true, ite_false, if_true, if_false, Bool.not_true, Bool.not_false, Bool.not_eq_true', Bool.not_eq_false', outP1, outP2, outP3, noOwn, wipeS, restS, false_and, and_false, eq_self_iff_true, not_true_eq_false, not_false_eq_true, decide_true, decide_false]
  refine ⟨by decide, ?_⟩
  (try subst hk_law_rows_b2); unfold law_rows.b2; obtain ⟨k_law_rows_b2l0, hk_law_rows_b2l0⟩ : ∃ k, k = law_rows.b2l0 := ⟨_, rfl⟩; rw [← hk_law_rows_b2l0]; obtain ⟨k_law_rows_b3, hk_law_rows_b3⟩ : ∃ k, k = law_rows.b3 := ⟨_, rfl⟩; rw [← hk_law_rows_b3]; simp only [wpSs, wpS, wpE, wpA, wpC, wpT, wpTss, wpI, wpAnds, wpOrs, bindT, getS, setS, setsS, outS, slD, Pr.w, Pr.aw, pAdd, pInt, pMul, pCmp, pEq, pIsN, pLt, pLen, pAbs, pNeg, pInt1, pBool, pIsi, pIx, pSlc, pTupD, pLstD, pTupOf, pLstOf, pSum, pBs, pTwo, isNon, isIns, isTp, truth, items, ent, List.replicate, List.cons_append, List.nil_append, Rv.d, bodyP, at0, at1, at2, at3, at4, atm1, ixn1, ixn2, ixn3, set51, set52, set53, get51, D.int.injEq, D.bl.injEq, D.tup.injEq, D.lst.injEq, D.str.injEq, Sl.own.injEq, Sl.val.injEq, Rv.v.injEq, Rv.fr.injEq, Option.some.injEq, List.cons.injEq, exists_eq_left, exists_eq_left', exists_eq, exists_eq', exists_const, exists_and_left, true_and, and_true, true_implies, forall_const, Bool.false_eq_true, Bool.true_eq_false, false_implies, implies_true, decide_eq_true_eq, decide_eq_false_iff_not, Nat.reduceSub, Nat.reduceAdd, id_eq, List.length_cons, List.length_nil, List.length_append, reduceCtorEq, and_self, ite_true, ite_false, if_true, if_false, Bool.not_true, Bool.not_false, Bool.not_eq_true', Bool.not_eq_false', outP1, outP2, outP3, noOwn, wipeS, restS, false_and, and_false, eq_self_iff_true, not_true_eq_false, not_false_eq_true, decide_true, decide_false]
  refine ⟨⟨by omega, by omega⟩, ?_⟩
  refine forL_of (fun rest env => ∃ (d1 : List D) (as bs : List Int) (k : Nat) (x y : Sl), k + rest.length = n ∧ rest = (List.range rest.length).map (fun (i : Nat) => .int (0 + ((k + i : Nat) : Int))) ∧ dO d1 ∧ Ok' k as ∧ Ok' k bs ∧ env = [.own d1, .val (.int (n : Int)), .own (as.map .int), .own (bs.map .int), x, y]) (fun env hi => ?_) (fun d rest env hi R hR => ?_) _ _ ⟨ds, [], [], 0, .un, .un, ?_, ?_, hd, .nil, .nil, rfl⟩
  · obtain ⟨d1, as, bs, k, x, y, hk, -, h1, ha, hb, rfl⟩ := hi
    have : k = n := by simpa using hk
    subst this
    (try subst hk_law_rows_b3); unfold law_rows.b3; simp only [wpSs, wpS, wpE, wpA, wpC, wpT, wpTss, wpI, wpAnds, wpOrs, bindT, getS, setS, setsS, outS, slD, Pr.w, Pr.aw, pAdd, pInt, pMul, pCmp, pEq, pIsN, pLt, pLen, pAbs, pNeg, pInt1, pBool, pIsi, pIx, pSlc, pTupD, pLstD, pTupOf, pLstOf, pSum, pBs, pTwo, isNon, isIns, isTp, truth, items, ent, List.replicate, List.cons_append, List.nil_append, Rv.d, bodyP, at0, at1, at2, at3, at4, atm1, ixn1, ixn2, ixn3, set51, set52, set53, get51, D.int.injEq, D.bl.injEq, D.tup.injEq, D.lst.injEq, D.str.injEq, Sl.own.injEq, Sl.val.injEq, Rv.v.injEq, Rv.fr.injEq, Option.some.injEq, List.cons.injEq, exists_eq_left, exists_eq_left', exists_eq, exists_eq', exists_const, exists_and_left, true_and, and_true, true_implies, forall_const, Bool.false_eq_true, Bool.true_eq_false, false_implies, implies_true, decide_eq_true_eq, decide_eq_false_iff_not, Nat.reduceSub, Nat.reduceAdd, id_eq, List.length_cons, List.length_nil, List.length_append, reduceCtorEq, and_self, ite_true, ite_false, if_true, if_false, Bool.not_true, Bool.not_false, Bool.not_eq_true', Bool.not_eq_false', outP1, outP2, outP3, noOwn, wipeS, restS, false_and, and_false, eq_self_iff_true, not_true_eq_false, not_false_eq_true, decide_true, decide_false]
    exact ⟨by decide, hq d1 as bs h1 ha hb⟩
  · obtain ⟨d1, as, bs, k, x, y, hk, hr, h1, ha, hb, rfl⟩ := hi
    rw [List.length_cons] at hk hr
    rw [List.range_succ_eq_map, List.map_cons, List.map_map] at hr
    have hd0 := (List.cons.inj hr).1
    have hr0 := (List.cons.inj hr).2
    have e0 : ((k + 0 : Nat) : Int) = (k : Int) := by omega
    rw [e0, Int.zero_add] at hd0
    subst hd0
    have fin : ∀ (d2 : List D) (as' bs' : List Int) (x' y' : Sl), dO d2 → Ok' (k + 1) as' → Ok' (k + 1) bs' → R [.own d2, .val (.int (n : Int)), .own (as'.map .int), .own (bs'.map .int), x', y'] := fun d2 as' bs' x' y' h2 ha' hb' => by
      refine hR _ ⟨d2, as', bs', k + 1, x', y', by omega, ?_, h2, ha', hb', rfl⟩
      refine hr0.trans (List.map_congr_left fun i _ => ?_)
      show D.int (0 + ((k + (i + 1) : Nat) : Int)) = D.int (0 + ((k + 1 + i : Nat) : Int))
      congr 3
      omega
    have lo : ∀ {m : Nat} {ns : List Int}, Ok' m ns → m ≤ 40 → (ns.map D.int).length < LINE := fun {m ns} h hm => by
      rw [List.length_map, h.1]
      have : 1000 ≤ LINE := by decide
      omega
    (try subst hk_law_rows_b2l0); unfold law_rows.b2l0; obtain ⟨k_law_rows_b2l1, hk_law_rows_b2l1⟩ : ∃ k, k = law_rows.b2l1 := ⟨_, rfl⟩; rw [← hk_law_rows_b2l1]; simp only [G_rows.s0, wpSs, wpS, wpE, wpA, wpC, wpT, wpTss, wpI, wpAnds, wpOrs, bindT, getS, setS, setsS, outS, slD, Pr.w, Pr.aw, pAdd, pInt, pMul, pCmp, pEq, pIsN, pLt, pLen, pAbs, pNeg, pInt1, pBool, pIsi, pIx, pSlc, pTupD, pLstD, pTupOf, pLstOf, pSum, pBs, pTwo, isNon, isIns, isTp, truth, items, ent, List.replicate, List.cons_append, List.nil_append, Rv.d, bodyP, at0, at1, at2, at3, at4, atm1, ixn1, ixn2, ixn3, set51, set52, set53, get51, D.int.injEq, D.bl.injEq, D.tup.injEq, D.lst.injEq, D.str.injEq, Sl.own.injEq, Sl.val.injEq, Rv.v.injEq, Rv.fr.injEq, Option.some.injEq, List.cons.injEq, exists_eq_left, exists_eq_left', exists_eq, exists_eq', exists_const, exists_and_left, true_and, and_true, true_implies, forall_const, Bool.false_eq_true, Bool.true_eq_false, false_implies, implies_true, decide_eq_true_eq, decide_eq_false_iff_not, Nat.reduceSub, Nat.reduceAdd, id_eq, List.length_cons, List.length_nil, List.length_append, reduceCtorEq, and_self, ite_true, ite_false, if_true, if_false, Bool.not_true, Bool.not_false, Bool.not_eq_true', Bool.not_eq_false', outP1, outP2, outP3, noOwn, wipeS, restS, false_and, and_false, eq_self_iff_true, not_true_eq_false, not_false_eq_true, decide_true, decide_false]
    refine ⟨d1, rfl, h1, fun d2 a h2 ra => ?_⟩
    (try simp only [wpSs, wpS, wpE, wpA, wpC, wpT, wpTss, wpI, wpAnds, wpOrs, bindT, getS, setS, setsS, outS, slD, Pr.w, Pr.aw, pAdd, pInt, pMul, pCmp, pEq, pIsN, pLt, pLen, pAbs, pNeg, pInt1, pBool, pIsi, pIx, pSlc, pTupD, pLstD, pTupOf, pLstOf, pSum, pBs, pTwo, isNon, isIns, isTp, truth, items, ent, List.replicate, List.cons_append, List.nil_append, Rv.d, bodyP, at0, at1, at2, at3, at4, atm1, ixn1, ixn2, ixn3, set51, set52, set53, get51, D.int.injEq, D.bl.injEq, D.tup.injEq, D.lst.injEq, D.str.injEq, Sl.own.injEq, Sl.val.injEq, Rv.v.injEq, Rv.fr.injEq, Option.some.injEq, List.cons.injEq, exists_eq_left, exists_eq_left', exists_eq, exists_eq', exists_const, exists_and_left, true_and, and_true, true_implies, forall_const, Bool.false_eq_true, Bool.true_eq_false, false_implies, implies_true, decide_eq_true_eq, decide_eq_false_iff_not, Nat.reduceSub, Nat.reduceAdd, id_eq, List.length_cons, List.length_nil, List.length_append, reduceCtorEq, and_self, ite_true, ite_false, if_true, if_false, Bool.not_true, Bool.not_false, Bool.not_eq_true', Bool.not_eq_false', outP1, outP2, outP3, noOwn, wipeS, restS, false_and, and_false, eq_self_iff_true, not_true_eq_false, not_false_eq_true, decide_true, decide_false])
    refine ⟨lo ha (by omega), ?_⟩
    have ea : as.map D.int ++ [D.int a] = (as ++ [a]).map .int := by simp
    rw [ea]
    have ha' := ha.snoc (x := a) (ra.mono (by omega))
    (try subst hk_law_rows_b2l1); unfold law_rows.b2l1; obtain ⟨k_law_rows_b2l2, hk_law_rows_b2l2⟩ : ∃ k, k = law_rows.b2l2 := ⟨_, rfl⟩; rw [← hk_law_rows_b2l2]; simp only [G_rows.s1, wpSs, wpS, wpE, wpA, wpC, wpT, wpTss, wpI, wpAnds, wpOrs, bindT, getS, setS, setsS, outS, slD, Pr.w, Pr.aw, pAdd, pInt, pMul, pCmp, pEq, pIsN, pLt, pLen, pAbs, pNeg, pInt1, pBool, pIsi, pIx, pSlc, pTupD, pLstD, pTupOf, pLstOf, pSum, pBs, pTwo, isNon, isIns, isTp, truth, items, ent, List.replicate, List.cons_append, List.nil_append, Rv.d, bodyP, at0, at1, at2, at3, at4, atm1, ixn1, ixn2, ixn3, set51, set52, set53, get51, D.int.injEq, D.bl.injEq, D.tup.injEq, D.lst.injEq, D.str.injEq, Sl.own.injEq, Sl.val.injEq, Rv.v.injEq, Rv.fr.injEq, Option.some.injEq, List.cons.injEq, exists_eq_left, exists_eq_left', exists_eq, exists_eq', exists_const, exists_and_left, true_and, and_true, true_implies, forall_const, Bool.false_eq_true, Bool.true_eq_false, false_implies, implies_true, decide_eq_true_eq, decide_eq_false_iff_not, Nat.reduceSub, Nat.reduceAdd, id_eq, List.length_cons, List.length_nil, List.length_append, reduceCtorEq, and_self, ite_true, ite_false, if_true, if_false, Bool.not_true, Bool.not_false, Bool.not_eq_true', Bool.not_eq_false', outP1, outP2, outP3, noOwn, wipeS, restS, false_and, and_false, eq_self_iff_true, not_true_eq_false, not_false_eq_true, decide_true, decide_false]
    refine ⟨d2, 4, rfl, h2, by decide, by decide, fun d3 w h3 w0 w1 => ?_⟩
    (try simp only [wpSs, wpS, wpE, wpA, wpC, wpT, wpTss, wpI, wpAnds, wpOrs, bindT, getS, setS, setsS, outS, slD, Pr.w, Pr.aw, pAdd, pInt, pMul, pCmp, pEq, pIsN, pLt, pLen, pAbs, pNeg, pInt1, pBool, pIsi, pIx, pSlc, pTupD, pLstD, pTupOf, pLstOf, pSum, pBs, pTwo, isNon, isIns, isTp, truth, items, ent, List.replicate, List.cons_append, List.nil_append, Rv.d, bodyP, at0, at1, at2, at3, at4, atm1, ixn1, ixn2, ixn3, set51, set52, set53, get51, D.int.injEq, D.bl.injEq, D.tup.injEq, D.lst.injEq, D.str.injEq, Sl.own.injEq, Sl.val.injEq, Rv.v.injEq, Rv.fr.injEq, Option.some.injEq, List.cons.injEq, exists_eq_left, exists_eq_left', exists_eq, exists_eq', exists_const, exists_and_left, true_and, and_true, true_implies, forall_const, Bool.false_eq_true, Bool.true_eq_false, false_implies, implies_true, decide_eq_true_eq, decide_eq_false_iff_not, Nat.reduceSub, Nat.reduceAdd, id_eq, List.length_cons, List.length_nil, List.length_append, reduceCtorEq, and_self, ite_true, ite_false, if_true, if_false, Bool.not_true, Bool.not_false, Bool.not_eq_true', Bool.not_eq_false', outP1, outP2, outP3, noOwn, wipeS, restS, false_and, and_false, eq_self_iff_true, not_true_eq_false, not_false_eq_true, decide_true, decide_false])
    (try subst hk_law_rows_b2l2); unfold law_rows.b2l2; obtain ⟨k_law_rows_b2l2t0, hk_law_rows_b2l2t0⟩ : ∃ k, k = law_rows.b2l2t0 := ⟨_, rfl⟩; rw [← hk_law_rows_b2l2t0]; obtain ⟨k_law_rows_b2l2e0, hk_law_rows_b2l2e0⟩ : ∃ k, k = law_rows.b2l2e0 := ⟨_, rfl⟩; rw [← hk_law_rows_b2l2e0]; simp only [deq_int, plain_int, wpSs, wpS, wpE, wpA, wpC, wpT, wpTss, wpI, wpAnds, wpOrs, bindT, getS, setS, setsS, outS, slD, Pr.w, Pr.aw, pAdd, pInt, pMul, pCmp, pEq, pIsN, pLt, pLen, pAbs, pNeg, pInt1, pBool, pIsi, pIx, pSlc, pTupD, pLstD, pTupOf, pLstOf, pSum, pBs, pTwo, isNon, isIns, isTp, truth, items, ent, List.replicate, List.cons_append, List.nil_append, Rv.d, bodyP, at0, at1, at2, at3, at4, atm1, ixn1, ixn2, ixn3, set51, set52, set53, get51, D.int.injEq, D.bl.injEq, D.tup.injEq, D.lst.injEq, D.str.injEq, Sl.own.injEq, Sl.val.injEq, Rv.v.injEq, Rv.fr.injEq, Option.some.injEq, List.cons.injEq, exists_eq_left, exists_eq_left', exists_eq, exists_eq', exists_const, exists_and_left, true_and, and_true, true_implies, forall_const, Bool.false_eq_true, Bool.true_eq_false, false_implies, implies_true, decide_eq_true_eq, decide_eq_false_iff_not, Nat.reduceSub, Nat.reduceAdd, id_eq, List.length_cons, List.length_nil, List.length_append, reduceCtorEq, and_self, ite_true, ite_false, if_true, if_false, Bool.not_true, Bool.not_false, Bool.not_eq_true', Bool.not_eq_false', outP1, outP2, outP3, noOwn, wipeS, restS, false_and, and_false, eq_self_iff_true, not_true_eq_false, not_false_eq_true, decide_true, decide_false]
    refine ⟨fun h => ?_, fun h => ?_⟩
    · (try subst hk_law_rows_b2l2t0); unfold law_rows.b2l2t0; simp only [wpSs, wpS, wpE, wpA, wpC, wpT, wpTss, wpI, wpAnds, wpOrs, bindT, getS, setS, setsS, outS, slD, Pr.w, Pr.aw, pAdd, pInt, pMul, pCmp, pEq, pIsN, pLt, pLen, pAbs, pNeg, pInt1, pBool, pIsi, pIx, pSlc, pTupD, pLstD, pTupOf, pLstOf, pSum, pBs, pTwo, isNon, isIns, isTp, truth, items, ent, List.replicate, List.cons_append, List.nil_append, Rv.d, bodyP, at0, at1, at2, at3, at4, atm1, ixn1, ixn2, ixn3, set51, set52, set53, get51, D.int.injEq, D.bl.injEq, D.tup.injEq, D.lst.injEq, D.str.injEq, Sl.own.injEq, Sl.val.injEq, Rv.v.injEq, Rv.fr.injEq, Option.some.injEq, List.cons.injEq, exists_eq_left, exists_eq_left', exists_eq, exists_eq', exists_const, exists_and_left, true_and, and_true, true_implies, forall_const, Bool.false_eq_true, Bool.true_eq_false, false_implies, implies_true, decide_eq_true_eq, decide_eq_false_iff_not, Nat.reduceSub, Nat.reduceAdd, id_eq, List.length_cons, List.length_nil, List.length_append, reduceCtorEq, and_self, ite_true, ite_false, if_true, if_false, Bool.not_true, Bool.not_false, Bool.not_eq_true', Bool.not_eq_false', outP1, outP2, outP3, noOwn, wipeS, restS, false_and, and_false, eq_self_iff_true, not_true_eq_false, not_false_eq_true, decide_true, decide_false]
      have hk' : k < (as ++ [a]).length := by rw [ha'.1]; omega
      have e := at_row hk'
      rw [Int.zero_add] at e
      refine ⟨_, e, lo hb (by omega), ?_⟩
      rw [show bs.map D.int ++ [D.int ((as ++ [a]).getD k 0)] = (bs ++ [(as ++ [a]).getD k 0]).map .int by simp]
      exact fin d3 _ _ _ _ h3 ha' (hb.snoc (ha'.2 _ (at_get hk')))
    · (try subst hk_law_rows_b2l2e0); unfold law_rows.b2l2e0; obtain ⟨k_law_rows_b2l2e0t0, hk_law_rows_b2l2e0t0⟩ : ∃ k, k = law_rows.b2l2e0t0 := ⟨_, rfl⟩; rw [← hk_law_rows_b2l2e0t0]; obtain ⟨k_law_rows_b2l2e0e0, hk_law_rows_b2l2e0e0⟩ : ∃ k, k = law_rows.b2l2e0e0 := ⟨_, rfl⟩; rw [← hk_law_rows_b2l2e0e0]; simp only [deq_int, plain_int, wpSs, wpS, wpE, wpA, wpC, wpT, wpTss, wpI, wpAnds, wpOrs, bindT, getS, setS, setsS, outS, slD, Pr.w, Pr.aw, pAdd, pInt, pMul, pCmp, pEq, pIsN, pLt, pLen, pAbs, pNeg, pInt1, pBool, pIsi, pIx, pSlc, pTupD, pLstD, pTupOf, pLstOf, pSum, pBs, pTwo, isNon, isIns, isTp, truth, items, ent, List.replicate, List.cons_append, List.nil_append, Rv.d, bodyP, at0, at1, at2, at3, at4, atm1, ixn1, ixn2, ixn3, set51, set52, set53, get51, D.int.injEq, D.bl.injEq, D.tup.injEq, D.lst.injEq, D.str.injEq, Sl.own.injEq, Sl.val.injEq, Rv.v.injEq, Rv.fr.injEq, Option.some.injEq, List.cons.injEq, exists_eq_left, exists_eq_left', exists_eq, exists_eq', exists_const, exists_and_left, true_and, and_true, true_implies, forall_const, Bool.false_eq_true, Bool.true_eq_false, false_implies, implies_true, decide_eq_true_eq, decide_eq_false_iff_not, Nat.reduceSub, Nat.reduceAdd, id_eq, List.length_cons, List.length_nil, List.length_append, reduceCtorEq, and_self, ite_true, ite_false, if_true, if_false, Bool.not_true, Bool.not_false, Bool.not_eq_true', Bool.not_eq_false', outP1, outP2, outP3, noOwn, wipeS, restS, false_and, and_false, eq_self_iff_true, not_true_eq_false, not_false_eq_true, decide_true, decide_false]
      refine ⟨fun h => ?_, fun h => ?_⟩
      · (try subst hk_law_rows_b2l2e0t0); unfold law_rows.b2l2e0t0; simp only [wpSs, wpS, wpE, wpA, wpC, wpT, wpTss, wpI, wpAnds, wpOrs, bindT, getS, setS, setsS, outS, slD, Pr.w, Pr.aw, pAdd, pInt, pMul, pCmp, pEq, pIsN, pLt, pLen, pAbs, pNeg, pInt1, pBool, pIsi, pIx, pSlc, pTupD, pLstD, pTupOf, pLstOf, pSum, pBs, pTwo, isNon, isIns, isTp, truth, items, ent, List.replicate, List.cons_append, List.nil_append, Rv.d, bodyP, at0, at1, at2, at3, at4, atm1, ixn1, ixn2, ixn3, set51, set52, set53, get51, D.int.injEq, D.bl.injEq, D.tup.injEq, D.lst.injEq, D.str.injEq, Sl.own.injEq, Sl.val.injEq, Rv.v.injEq, Rv.fr.injEq, Option.some.injEq, List.cons.injEq, exists_eq_left, exists_eq_left', exists_eq, exists_eq', exists_const, exists_and_left, true_and, and_true, true_implies, forall_const, Bool.false_eq_true, Bool.true_eq_false, false_implies, implies_true, decide_eq_true_eq, decide_eq_false_iff_not, Nat.reduceSub, Nat.reduceAdd, id_eq, List.length_cons, List.length_nil, List.length_append, reduceCtorEq, and_self, ite_true, ite_false, if_true, if_false, Bool.not_true, Bool.not_false, Bool.not_eq_true', Bool.not_eq_false', outP1, outP2, outP3, noOwn, wipeS, restS, false_and, and_false, eq_self_iff_true, not_true_eq_false, not_false_eq_true, decide_true, decide_false]
        refine ⟨lo hb (by omega), ?_⟩
        rw [show bs.map D.int ++ [D.int 0] = (bs ++ [0]).map .int by simp]
        exact fin d3 _ _ _ _ h3 ha' (hb.snoc (by unfold Bt; decide))
      · (try subst hk_law_rows_b2l2e0e0); unfold law_rows.b2l2e0e0; simp only [G_rows.s0, wpSs, wpS, wpE, wpA, wpC, wpT, wpTss, wpI, wpAnds, wpOrs, bindT, getS, setS, setsS, outS, slD, Pr.w, Pr.aw, pAdd, pInt, pMul, pCmp, pEq, pIsN, pLt, pLen, pAbs, pNeg, pInt1, pBool, pIsi, pIx, pSlc, pTupD, pLstD, pTupOf, pLstOf, pSum, pBs, pTwo, isNon, isIns, isTp, truth, items, ent, List.replicate, List.cons_append, List.nil_append, Rv.d, bodyP, at0, at1, at2, at3, at4, atm1, ixn1, ixn2, ixn3, set51, set52, set53, get51, D.int.injEq, D.bl.injEq, D.tup.injEq, D.lst.injEq, D.str.injEq, Sl.own.injEq, Sl.val.injEq, Rv.v.injEq, Rv.fr.injEq, Option.some.injEq, List.cons.injEq, exists_eq_left, exists_eq_left', exists_eq, exists_eq', exists_const, exists_and_left, true_and, and_true, true_implies, forall_const, Bool.false_eq_true, Bool.true_eq_false, false_implies, implies_true, decide_eq_true_eq, decide_eq_false_iff_not, Nat.reduceSub, Nat.reduceAdd, id_eq, List.length_cons, List.length_nil, List.length_append, reduceCtorEq, and_self, ite_true, ite_false, if_true, if_false, Bool.not_true, Bool.not_false, Bool.not_eq_true', Bool.not_eq_false', outP1, outP2, outP3, noOwn, wipeS, restS, false_and, and_false, eq_self_iff_true, not_true_eq_false, not_false_eq_true, decide_true, decide_false]
        refine ⟨d3, rfl, h3, fun d4 b h4 rb => ?_⟩
        (try simp only [wpSs, wpS, wpE, wpA, wpC, wpT, wpTss, wpI, wpAnds, wpOrs, bindT, getS, setS, setsS, outS, slD, Pr.w, Pr.aw, pAdd, pInt, pMul, pCmp, pEq, pIsN, pLt, pLen, pAbs, pNeg, pInt1, pBool, pIsi, pIx, pSlc, pTupD, pLstD, pTupOf, pLstOf, pSum, pBs, pTwo, isNon, isIns, isTp, truth, items, ent, List.replicate, List.cons_append, List.nil_append, Rv.d, bodyP, at0, at1, at2, at3, at4, atm1, ixn1, ixn2, ixn3, set51, set52, set53, get51, D.int.injEq, D.bl.injEq, D.tup.injEq, D.lst.injEq, D.str.injEq, Sl.own.injEq, Sl.val.injEq, Rv.v.injEq, Rv.fr.injEq, Option.some.injEq, List.cons.injEq, exists_eq_left, exists_eq_left', exists_eq, exists_eq', exists_const, exists_and_left, true_and, and_true, true_implies, forall_const, Bool.false_eq_true, Bool.true_eq_false, false_implies, implies_true, decide_eq_true_eq, decide_eq_false_iff_not, Nat.reduceSub, Nat.reduceAdd, id_eq, List.length_cons, List.length_nil, List.length_append, reduceCtorEq, and_self, ite_true, ite_false, if_true, if_false, Bool.not_true, Bool.not_false, Bool.not_eq_true', Bool.not_eq_false', outP1, outP2, outP3, noOwn, wipeS, restS, false_and, and_false, eq_self_iff_true, not_true_eq_false, not_false_eq_true, decide_true, decide_false])
        refine ⟨lo hb (by omega), ?_⟩
        rw [show bs.map D.int ++ [D.int b] = (bs ++ [b]).map .int by simp]
        exact fin d4 _ _ _ _ h4 ha' (hb.snoc (rb.mono (by omega)))
  · simp [rngD]
  · simp [rngD]
theorem G_int0 : True := trivial
def sp_same : DSp := fun ss Q _ => ∃ (ns : List Int) (due : D), ss = [.val (rw' ns), .val due] ∧ (due = rw' ns ∨ due = ls ns) ∧ ns.length ≤ 100 ∧ Q (.v (.bl true)) [.un, .un]
theorem w_same : ∀ ss Q E, ss.length = 2 → sp_same ss Q E → wpSs G_int law_same_row.b0 (ent ss 1) (bodyP ss Q E) := by
  rintro ss Q E - ⟨ns, due, rfl, hdue, hl, hq⟩
  have hR : ∀ (k : Nat), k < ns.length → ∀ (E0 : D), True := fun _ _ _ => trivial
  rcases hdue with rfl | rfl
  all_goals
    (try subst hk_law_same_row_b0); unfold law_same_row.b0; obtain ⟨k_law_same_row_b0t0, hk_law_same_row_b0t0⟩ : ∃ k, k = law_same_row.b0t0 := ⟨_, rfl⟩; rw [← hk_law_same_row_b0t0]; obtain ⟨k_law_same_row_b1, hk_law_same_row_b1⟩ : ∃ k, k = law_same_row.b1 := ⟨_, rfl⟩; rw [← hk_law_same_row_b1]; simp only [rw', ls, deq_int, plain_int, wpSs, wpS, wpE, wpA, wpC, wpT, wpTss, wpI, wpAnds, wpOrs, bindT, getS, setS, setsS, outS, slD, Pr.w, Pr.aw, pAdd, pInt, pMul, pCmp, pEq, pIsN, pLt, pLen, pAbs, pNeg, pInt1, pBool, pIsi, pIx, pSlc, pTupD, pLstD, pTupOf, pLstOf, pSum, pBs, pTwo, isNon, isIns, isTp, truth, items, ent, List.replicate, List.cons_append, List.nil_append, Rv.d, bodyP, at0, at1, at2, at3, at4, atm1, ixn1, ixn2, ixn3, set51, set52, set53, get51, D.int.injEq, D.bl.injEq, D.tup.injEq, D.lst.injEq, D.str.injEq, Sl.own.injEq, Sl.val.injEq, Rv.v.injEq, Rv.fr.injEq, Option.some.injEq, List.cons.injEq, exists_eq_left, exists_eq_left', exists_eq, exists_eq', exists_const, exists_and_left, true_and, and_true, true_implies, forall_const, Bool.false_eq_true, Bool.true_eq_false, false_implies, implies_true, decide_eq_true_eq, decide_eq_false_iff_not, Nat.reduceSub, Nat.reduceAdd, id_eq, List.length_cons, List.length_nil, List.length_append, reduceCtorEq, and_self, ite_true, ite_false, if_true, if_false, Bool.not_true, Bool.not_false, Bool.not_eq_true', Bool.not_eq_false', outP1, outP2, outP3, noOwn, wipeS, restS, false_and, and_false, eq_self_iff_true, not_true_eq_false, not_false_eq_true, decide_true, decide_false]
    (try subst hk_law_same_row_b1); unfold law_same_row.b1; simp only [G_int.s0, wpSs, wpS, wpE, wpA, wpC, wpT, wpTss, wpI, wpAnds, wpOrs, bindT, getS, setS, setsS, outS, slD, Pr.w, Pr.aw, pAdd, pInt, pMul, pCmp, pEq, pIsN, pLt, pLen, pAbs, pNeg, pInt1, pBool, pIsi, pIx, pSlc, pTupD, pLstD, pTupOf, pLstOf, pSum, pBs, pTwo, isNon, isIns, isTp, truth, items, ent, List.replicate, List.cons_append, List.nil_append, Rv.d, bodyP, at0, at1, at2, at3, at4, atm1, ixn1, ixn2, ixn3, set51, set52, set53, get51, D.int.injEq, D.bl.injEq, D.tup.injEq, D.lst.injEq, D.str.injEq, Sl.own.injEq, Sl.val.injEq, Rv.v.injEq, Rv.fr.injEq, Option.some.injEq, List.cons.injEq, exists_eq_left, exists_eq_left', exists_eq, exists_eq', exists_const, exists_and_left, true_and, and_true, true_implies, forall_const, Bool.false_eq_true, Bool.true_eq_false, false_implies, implies_true, decide_eq_true_eq, decide_eq_false_iff_not, Nat.reduceSub, Nat.reduceAdd, id_eq, List.length_cons, List.length_nil, List.length_append, reduceCtorEq, and_self, ite_true, ite_false, if_true, if_false, Bool.not_true, Bool.not_false, Bool.not_eq_true', Bool.not_eq_false', outP1, outP2, outP3, noOwn, wipeS, restS, false_and, and_false, eq_self_iff_true, not_true_eq_false, not_false_eq_true, decide_true, decide_false]
    refine ⟨⟨by simp only [List.length_map]; omega, by simp only [List.length_map]; omega⟩, ?_⟩
    rw [show ((ns.map D.int).length : Int).toNat = ns.length by rw [List.length_map]; omega]
    refine comp_rng (fun _ => .bl true) ns.length (by omega) (fun k hk R hR => ?_) ?_
    · have e := at_row hk
      (try simp only [G_int.s0, wpSs, wpS, wpE, wpA, wpC, wpT, wpTss, wpI, wpAnds, wpOrs, bindT, getS, setS, setsS, outS, slD, Pr.w, Pr.aw, pAdd, pInt, pMul, pCmp, pEq, pIsN, pLt, pLen, pAbs, pNeg, pInt1, pBool, pIsi, pIx, pSlc, pTupD, pLstD, pTupOf, pLstOf, pSum, pBs, pTwo, isNon, isIns, isTp, truth, items, ent, List.replicate, List.cons_append, List.nil_append, Rv.d, bodyP, at0, at1, at2, at3, at4, atm1, ixn1, ixn2, ixn3, set51, set52, set53, get51, D.int.injEq, D.bl.injEq, D.tup.injEq, D.lst.injEq, D.str.injEq, Sl.own.injEq, Sl.val.injEq, Rv.v.injEq, Rv.fr.injEq, Option.some.injEq, List.cons.injEq, exists_eq_left, exists_eq_left', exists_eq, exists_eq', exists_const, exists_and_left, true_and, and_true, true_implies, forall_const, Bool.false_eq_true, Bool.true_eq_false, false_implies, implies_true, decide_eq_true_eq, decide_eq_false_iff_not, Nat.reduceSub, Nat.reduceAdd, id_eq, List.length_cons, List.length_nil, List.length_append, reduceCtorEq, and_self, ite_true, ite_false, if_true, if_false, Bool.not_true, Bool.not_false, Bool.not_eq_true', Bool.not_eq_false', outP1, outP2, outP3, noOwn, wipeS, restS, false_and, and_false, eq_self_iff_true, not_true_eq_false, not_false_eq_true, decide_true, decide_false])
      refine ⟨_, e, ?_⟩
      (try simp only [G_int.s0, wpSs, wpS, wpE, wpA, wpC, wpT, wpTss, wpI, wpAnds, wpOrs, bindT, getS, setS, setsS, outS, slD, Pr.w, Pr.aw, pAdd, pInt, pMul, pCmp, pEq, pIsN, pLt, pLen, pAbs, pNeg, pInt1, pBool, pIsi, pIx, pSlc, pTupD, pLstD, pTupOf, pLstOf, pSum, pBs, pTwo, isNon, isIns, isTp, truth, items, ent, List.replicate, List.cons_append, List.nil_append, Rv.d, bodyP, at0, at1, at2, at3, at4, atm1, ixn1, ixn2, ixn3, set51, set52, set53, get51, D.int.injEq, D.bl.injEq, D.tup.injEq, D.lst.injEq, D.str.injEq, Sl.own.injEq, Sl.val.injEq, Rv.v.injEq, Rv.fr.injEq, Option.some.injEq, List.cons.injEq, exists_eq_left, exists_eq_left', exists_eq, exists_eq', exists_const, exists_and_left, true_and, and_true, true_implies, forall_const, Bool.false_eq_true, Bool.true_eq_false, false_implies, implies_true, decide_eq_true_eq, decide_eq_false_iff_not, Nat.reduceSub, Nat.reduceAdd, id_eq, List.length_cons, List.length_nil, List.length_append, reduceCtorEq, and_self, ite_true, ite_false, if_true, if_false, Bool.not_true, Bool.not_false, Bool.not_eq_true', Bool.not_eq_false', outP1, outP2, outP3, noOwn, wipeS, restS, false_and, and_false, eq_self_iff_true, not_true_eq_false, not_false_eq_true, decide_true, decide_false])
      refine ⟨_, rfl, rfl, ?_⟩
      rw [show isInt (.int (ns.getD k 0)) = true from rfl]
      (try simp only [wpSs, wpS, wpE, wpA, wpC, wpT, wpTss, wpI, wpAnds, wpOrs, bindT, getS, setS, setsS, outS, slD, Pr.w, Pr.aw, pAdd, pInt, pMul, pCmp, pEq, pIsN, pLt, pLen, pAbs, pNeg, pInt1, pBool, pIsi, pIx, pSlc, pTupD, pLstD, pTupOf, pLstOf, pSum, pBs, pTwo, isNon, isIns, isTp, truth, items, ent, List.replicate, List.cons_append, List.nil_append, Rv.d, bodyP, at0, at1, at2, at3, at4, atm1, ixn1, ixn2, ixn3, set51, set52, set53, get51, D.int.injEq, D.bl.injEq, D.tup.injEq, D.lst.injEq, D.str.injEq, Sl.own.injEq, Sl.val.injEq, Rv.v.injEq, Rv.fr.injEq, Option.some.injEq, List.cons.injEq, exists_eq_left, exists_eq_left', exists_eq, exists_eq', exists_const, exists_and_left, true_and, and_true, true_implies, forall_const, Bool.false_eq_true, Bool.true_eq_false, false_implies, implies_true, decide_eq_true_eq, decide_eq_false_iff_not, Nat.reduceSub, Nat.reduceAdd, id_eq, List.length_cons, List.length_nil, List.length_append, reduceCtorEq, and_self, ite_true, ite_false, if_true, if_false, Bool.not_true, Bool.not_false, Bool.not_eq_true', Bool.not_eq_false', outP1, outP2, outP3, noOwn, wipeS, restS, false_and, and_false, eq_self_iff_true, not_true_eq_false, not_false_eq_true, decide_true, decide_false])
      refine ⟨_, e, _, e, ?_⟩
      (try simp only [deq_int, plain_int, wpSs, wpS, wpE, wpA, wpC, wpT, wpTss, wpI, wpAnds, wpOrs, bindT, getS, setS, setsS, outS, slD, Pr.w, Pr.aw, pAdd, pInt, pMul, pCmp, pEq, pIsN, pLt, pLen, pAbs, pNeg, pInt1, pBool, pIsi, pIx, pSlc, pTupD, pLstD, pTupOf, pLstOf, pSum, pBs, pTwo, isNon, isIns, isTp, truth, items, ent, List.replicate, List.cons_append, List.nil_append, Rv.d, bodyP, at0, at1, at2, at3, at4, atm1, ixn1, ixn2, ixn3, set51, set52, set53, get51, D.int.injEq, D.bl.injEq, D.tup.injEq, D.lst.injEq, D.str.injEq, Sl.own.injEq, Sl.val.injEq, Rv.v.injEq, Rv.fr.injEq, Option.some.injEq, List.cons.injEq, exists_eq_left, exists_eq_left', exists_eq, exists_eq', exists_const, exists_and_left, true_and, and_true, true_implies, forall_const, Bool.false_eq_true, Bool.true_eq_false, false_implies, implies_true, decide_eq_true_eq, decide_eq_false_iff_not, Nat.reduceSub, Nat.reduceAdd, id_eq, List.length_cons, List.length_nil, List.length_append, reduceCtorEq, and_self, ite_true, ite_false, if_true, if_false, Bool.not_true, Bool.not_false, Bool.not_eq_true', Bool.not_eq_false', outP1, outP2, outP3, noOwn, wipeS, restS, false_and, and_false, eq_self_iff_true, not_true_eq_false, not_false_eq_true, decide_true, decide_false])
      exact hR
    · (try simp only [wpSs, wpS, wpE, wpA, wpC, wpT, wpTss, wpI, wpAnds, wpOrs, bindT, getS, setS, setsS, outS, slD, Pr.w, Pr.aw, pAdd, pInt, pMul, pCmp, pEq, pIsN, pLt, pLen, pAbs, pNeg, pInt1, pBool, pIsi, pIx, pSlc, pTupD, pLstD, pTupOf, pLstOf, pSum, pBs, pTwo, isNon, isIns, isTp, truth, items, ent, List.replicate, List.cons_append, List.nil_append, Rv.d, bodyP, at0, at1, at2, at3, at4, atm1, ixn1, ixn2, ixn3, set51, set52, set53, get51, D.int.injEq, D.bl.injEq, D.tup.injEq, D.lst.injEq, D.str.injEq, Sl.own.injEq, Sl.val.injEq, Rv.v.injEq, Rv.fr.injEq, Option.some.injEq, List.cons.injEq, exists_eq_left, exists_eq_left', exists_eq, exists_eq', exists_const, exists_and_left, true_and, and_true, true_implies, forall_const, Bool.false_eq_true, Bool.true_eq_false, false_implies, implies_true, decide_eq_true_eq, decide_eq_false_iff_not, Nat.reduceSub, Nat.reduceAdd, id_eq, List.length_cons, List.length_nil, List.length_append, reduceCtorEq, and_self, ite_true, ite_false, if_true, if_false, Bool.not_true, Bool.not_false, Bool.not_eq_true', Bool.not_eq_false', outP1, outP2, outP3, noOwn, wipeS, restS, false_and, and_false, eq_self_iff_true, not_true_eq_false, not_false_eq_true, decide_true, decide_false])
      refine ⟨List.replicate ns.length true, ?_, ?_⟩
      · rw [List.map_const', List.map_replicate, List.length_range]
      · rw [show (List.replicate ns.length true).all id = true by rw [List.all_eq_true]; intro x hx; exact (List.mem_replicate.mp hx).2]
        exact hq
end K02

set_option Elab.async false
set_option linter.all false
set_option maxRecDepth 100000
namespace K02
open PySem PySem.Spec L2 Pd
theorem getD_at {as : List Int} {k : Nat} (h : k < as.length) : as[k] = as.getD k 0 := by
  rw [List.getD_eq_getElem?_getD, List.getElem?_eq_getElem h]; rfl
theorem zw_range {f : Int → Int → Int} {as bs : List Int} {n : Nat} (ha : as.length = n) (hb : bs.length = n) : List.zipWith f as bs = (List.range n).map fun k => f (as.getD k 0) (bs.getD k 0) := by
  apply List.ext_getElem
  · simp [ha, hb]
  · intro i h1 h2
    have hi : i < n := by simpa using h2
    rw [List.getElem_zipWith, List.getElem_map, List.getElem_range, getD_at, getD_at]
theorem zip_range {as bs : List Int} {n : Nat} (ha : as.length = n) (hb : bs.length = n) : as.zip bs = (List.range n).map fun k => (as.getD k 0, bs.getD k 0) := by
  apply List.ext_getElem
  · simp [ha, hb]
  · intro i h1 h2
    have hi : i < n := by simpa using h2
    rw [List.getElem_zip, List.getElem_map, List.getElem_range, getD_at, getD_at]
theorem self_range {as : List Int} {n : Nat} (ha : as.length = n) : as = (List.range n).map fun k => as.getD k 0 := by
  apply List.ext_getElem
  · simp [ha]
  · intro i h1 h2
    rw [List.getElem_map, List.getElem_range, getD_at]
theorem rng_ls {g : Nat → Int} {n : Nat} : (List.range n).map (fun k => D.int (g k)) = ((List.range n).map g).map .int := by rw [List.map_map]; rfl
def G_pair : Gam := [("_law_same_row", 2, sp_same), ("plus_rows", 2, sp_zip fun a b => a + b), ("less_rows", 2, sp_zip fun a b => a - b), ("shared", 2, sp_zip mn), ("upper", 2, sp_zip mx), ("within", 2, sp_within), ("meet", 2, sp_meet), ("dot", 2, sp_dot), ("_law_is_int", 1, sp_whole)]
theorem G_pair.s0 : gam G_pair 0 = sp_same := rfl
theorem G_pair.s1 : gam G_pair 1 = sp_zip fun a b => a + b := rfl
theorem G_pair.s2 : gam G_pair 2 = sp_zip fun a b => a - b := rfl
theorem G_pair.s3 : gam G_pair 3 = sp_zip mn := rfl
theorem G_pair.s4 : gam G_pair 4 = sp_zip mx := rfl
theorem G_pair.s5 : gam G_pair 5 = sp_within := rfl
theorem G_pair.s6 : gam G_pair 6 = sp_meet := rfl
theorem G_pair.s7 : gam G_pair 7 = sp_dot := rfl
theorem G_pair.s8 : gam G_pair 8 = sp_whole := rfl
theorem rgb {n : Nat} (h : n ≤ 1000) : RgB 0 (n : Int) := ⟨by decide, by decide, by omega, by omega, by omega⟩
def sp_pair : DSp := fun ss Q _ => ∃ as bs : List Int, ss = [.val (rw' as), .val (rw' bs)] ∧ Ok as ∧ Ok bs ∧ as.length = bs.length ∧ Q (.v (.bl true)) [.un, .un]
theorem w_pair : ∀ ss Q E, ss.length = 2 → sp_pair ss Q E → wpSs G_pair law_pair_right.b0 (ent ss 3) (bodyP ss Q E) := by
  rintro ss Q E - ⟨as, bs, rfl, ha, hb, hab, hq⟩
  have hl := ha.1
  have ea : ∀ k, k < as.length → atI (as.map D.int) (0 + (k : Int)) = some (.int (as.getD k 0)) := fun k hk => at_row hk
  have eb : ∀ k, k < as.length → atI (bs.map D.int) (0 + (k : Int)) = some (.int (bs.getD k 0)) := fun k hk => at_row (by omega)
  have zl : ∀ f : Int → Int → Int, (List.zipWith f as bs).length ≤ 100 := fun f => by rw [List.length_zipWith]; omega
  have zr : ∀ f : Int → Int → Int, D.lst ((List.range as.length).map fun k => D.int (f (as.getD k 0) (bs.getD k 0))) = ls (List.zipWith f as bs) := fun f => by
    rw [zw_range rfl hab.symm, ls, rng_ls]
  (try subst hk_law_pair_right_b0); unfold law_pair_right.b0; obtain ⟨k_law_pair_right_b1, hk_law_pair_right_b1⟩ : ∃ k, k = law_pair_right.b1 := ⟨_, rfl⟩; rw [← hk_law_pair_right_b1]; simp only [rw', wpSs, wpS, wpE, wpA, wpC, wpT, wpTss, wpI, wpAnds, wpOrs, bindT, getS, setS, setsS, outS, slD, Pr.w, Pr.aw, pAdd, pInt, pMul, pCmp, pEq, pIsN, pLt, pLen, pAbs, pNeg, pInt1, pBool, pIsi, pIx, pSlc, pTupD, pLstD, pTupOf, pLstOf, pSum, pBs, pTwo, isNon, isIns, isTp, truth, items, ent, List.replicate, List.cons_append, List.nil_append, Rv.d, bodyP, at0, at1, at2, at3, at4, atm1, ixn1, ixn2, ixn3, set51, set52, set53, get51, D.int.injEq, D.bl.injEq, D.tup.injEq, D.lst.injEq, D.str.injEq, Sl.own.injEq, Sl.val.injEq, Rv.v.injEq, Rv.fr.injEq, Option.some.injEq, List.cons.injEq, exists_eq_left, exists_eq_left', exists_eq, exists_eq', exists_const, exists_and_left, true_and, and_true, true_implies, forall_const, Bool.false_eq_true, Bool.true_eq_false, false_implies, implies_true, decide_eq_true_eq, decide_eq_false_iff_not, Nat.reduceSub, Nat.reduceAdd, id_eq, List.length_cons, List.length_nil, List.length_append, reduceCtorEq, and_self, ite_true, ite_false, if_true, if_false, Bool.not_true, Bool.not_false, Bool.not_eq_true', Bool.not_eq_false', outP1, outP2, outP3, noOwn, wipeS, restS, mkSeq, false_and, and_false, eq_self_iff_true, not_true_eq_false, not_false_eq_true, decide_true, decide_false]
  refine ⟨by rw [List.length_map]; exact rgb (by omega), ?_⟩
  rw [show (((as.map D.int).length : Int) - 0).toNat = as.length by rw [List.length_map]; omega]
  (try subst hk_law_pair_right_b1); unfold law_pair_right.b1; obtain ⟨k_law_pair_right_b1t0, hk_law_pair_right_b1t0⟩ : ∃ k, k = law_pair_right.b1t0 := ⟨_, rfl⟩; rw [← hk_law_pair_right_b1t0]; obtain ⟨k_law_pair_right_b2, hk_law_pair_right_b2⟩ : ∃ k, k = law_pair_right.b2 := ⟨_, rfl⟩; rw [← hk_law_pair_right_b2]; simp only [G_pair.s0, G_pair.s1, wpSs, wpS, wpE, wpA, wpC, wpT, wpTss, wpI, wpAnds, wpOrs, bindT, getS, setS, setsS, outS, slD, Pr.w, Pr.aw, pAdd, pInt, pMul, pCmp, pEq, pIsN, pLt, pLen, pAbs, pNeg, pInt1, pBool, pIsi, pIx, pSlc, pTupD, pLstD, pTupOf, pLstOf, pSum, pBs, pTwo, isNon, isIns, isTp, truth, items, ent, List.replicate, List.cons_append, List.nil_append, Rv.d, bodyP, at0, at1, at2, at3, at4, atm1, ixn1, ixn2, ixn3, set51, set52, set53, get51, D.int.injEq, D.bl.injEq, D.tup.injEq, D.lst.injEq, D.str.injEq, Sl.own.injEq, Sl.val.injEq, Rv.v.injEq, Rv.fr.injEq, Option.some.injEq, List.cons.injEq, exists_eq_left, exists_eq_left', exists_eq, exists_eq', exists_const, exists_and_left, true_and, and_true, true_implies, forall_const, Bool.false_eq_true, Bool.true_eq_false, false_implies, implies_true, decide_eq_true_eq, decide_eq_false_iff_not, Nat.reduceSub, Nat.reduceAdd, id_eq, List.length_cons, List.length_nil, List.length_append, reduceCtorEq, and_self, ite_true, ite_false, if_true, if_false, Bool.not_true, Bool.not_false, Bool.not_eq_true', Bool.not_eq_false', outP1, outP2, outP3, noOwn, wipeS, restS, mkSeq, false_and, and_false, eq_self_iff_true, not_true_eq_false, not_false_eq_true, decide_true, decide_false]
  refine ⟨as, bs, rfl, ha, hb, ?_⟩
  (try simp only [G_pair.s0, wpSs, wpS, wpE, wpA, wpC, wpT, wpTss, wpI, wpAnds, wpOrs, bindT, getS, setS, setsS, outS, slD, Pr.w, Pr.aw, pAdd, pInt, pMul, pCmp, pEq, pIsN, pLt, pLen, pAbs, pNeg, pInt1, pBool, pIsi, pIx, pSlc, pTupD, pLstD, pTupOf, pLstOf, pSum, pBs, pTwo, isNon, isIns, isTp, truth, items, ent, List.replicate, List.cons_append, List.nil_append, Rv.d, bodyP, at0, at1, at2, at3, at4, atm1, ixn1, ixn2, ixn3, set51, set52, set53, get51, D.int.injEq, D.bl.injEq, D.tup.injEq, D.lst.injEq, D.str.injEq, Sl.own.injEq, Sl.val.injEq, Rv.v.injEq, Rv.fr.injEq, Option.some.injEq, List.cons.injEq, exists_eq_left, exists_eq_left', exists_eq, exists_eq', exists_const, exists_and_left, true_and, and_true, true_implies, forall_const, Bool.false_eq_true, Bool.true_eq_false, false_implies, implies_true, decide_eq_true_eq, decide_eq_false_iff_not, Nat.reduceSub, Nat.reduceAdd, id_eq, List.length_cons, List.length_nil, List.length_append, reduceCtorEq, and_self, ite_true, ite_false, if_true, if_false, Bool.not_true, Bool.not_false, Bool.not_eq_true', Bool.not_eq_false', outP1, outP2, outP3, noOwn, wipeS, restS, mkSeq, false_and, and_false, eq_self_iff_true, not_true_eq_false, not_false_eq_true, decide_true, decide_false])
  refine comp_rng (fun k => .int (as.getD k 0 + bs.getD k 0)) as.length (by omega) (fun k hk R hR => ?_) ?_
  · (try simp only [wpSs, wpS, wpE, wpA, wpC, wpT, wpTss, wpI, wpAnds, wpOrs, bindT, getS, setS, setsS, outS, slD, Pr.w, Pr.aw, pAdd, pInt, pMul, pCmp, pEq, pIsN, pLt, pLen, pAbs, pNeg, pInt1, pBool, pIsi, pIx, pSlc, pTupD, pLstD, pTupOf, pLstOf, pSum, pBs, pTwo, isNon, isIns, isTp, truth, items, ent, List.replicate, List.cons_append, List.nil_append, Rv.d, bodyP, at0, at1, at2, at3, at4, atm1, ixn1, ixn2, ixn3, set51, set52, set53, get51, D.int.injEq, D.bl.injEq, D.tup.injEq, D.lst.injEq, D.str.injEq, Sl.own.injEq, Sl.val.injEq, Rv.v.injEq, Rv.fr.injEq, Option.some.injEq, List.cons.injEq, exists_eq_left, exists_eq_left', exists_eq, exists_eq', exists_const, exists_and_left, true_and, and_true, true_implies, forall_const, Bool.false_eq_true, Bool.true_eq_false, false_implies, implies_true, decide_eq_true_eq, decide_eq_false_iff_not, Nat.reduceSub, Nat.reduceAdd, id_eq, List.length_cons, List.length_nil, List.length_append, reduceCtorEq, and_self, ite_true, ite_false, if_true, if_false, Bool.not_true, Bool.not_false, Bool.not_eq_true', Bool.not_eq_false', outP1, outP2, outP3, noOwn, wipeS, restS, mkSeq, false_and, and_false, eq_self_iff_true, not_true_eq_false, not_false_eq_true, decide_true, decide_false])
    refine ⟨_, ea k hk, _, eb k hk, ?_⟩
    (try simp only [wpSs, wpS, wpE, wpA, wpC, wpT, wpTss, wpI, wpAnds, wpOrs, bindT, getS, setS, setsS, outS, slD, Pr.w, Pr.aw, pAdd, pInt, pMul, pCmp, pEq, pIsN, pLt, pLen, pAbs, pNeg, pInt1, pBool, pIsi, pIx, pSlc, pTupD, pLstD, pTupOf, pLstOf, pSum, pBs, pTwo, isNon, isIns, isTp, truth, items, ent, List.replicate, List.cons_append, List.nil_append, Rv.d, bodyP, at0, at1, at2, at3, at4, atm1, ixn1, ixn2, ixn3, set51, set52, set53, get51, D.int.injEq, D.bl.injEq, D.tup.injEq, D.lst.injEq, D.str.injEq, Sl.own.injEq, Sl.val.injEq, Rv.v.injEq, Rv.fr.injEq, Option.some.injEq, List.cons.injEq, exists_eq_left, exists_eq_left', exists_eq, exists_eq', exists_const, exists_and_left, true_and, and_true, true_implies, forall_const, Bool.false_eq_true, Bool.true_eq_false, false_implies, implies_true, decide_eq_true_eq, decide_eq_false_iff_not, Nat.reduceSub, Nat.reduceAdd, id_eq, List.length_cons, List.length_nil, List.length_append, reduceCtorEq, and_self, ite_true, ite_false, if_true, if_false, Bool.not_true, Bool.not_false, Bool.not_eq_true', Bool.not_eq_false', outP1, outP2, outP3, noOwn, wipeS, restS, mkSeq, false_and, and_false, eq_self_iff_true, not_true_eq_false, not_false_eq_true, decide_true, decide_false])
    exact hR
  (try simp only [G_pair.s0, wpSs, wpS, wpE, wpA, wpC, wpT, wpTss, wpI, wpAnds, wpOrs, bindT, getS, setS, setsS, outS, slD, Pr.w, Pr.aw, pAdd, pInt, pMul, pCmp, pEq, pIsN, pLt, pLen, pAbs, pNeg, pInt1, pBool, pIsi, pIx, pSlc, pTupD, pLstD, pTupOf, pLstOf, pSum, pBs, pTwo, isNon, isIns, isTp, truth, items, ent, List.replicate, List.cons_append, List.nil_append, Rv.d, bodyP, at0, at1, at2, at3, at4, atm1, ixn1, ixn2, ixn3, set51, set52, set53, get51, D.int.injEq, D.bl.injEq, D.tup.injEq, D.lst.injEq, D.str.injEq, Sl.own.injEq, Sl.val.injEq, Rv.v.injEq, Rv.fr.injEq, Option.some.injEq, List.cons.injEq, exists_eq_left, exists_eq_left', exists_eq, exists_eq', exists_const, exists_and_left, true_and, and_true, true_implies, forall_const, Bool.false_eq_true, Bool.true_eq_false, false_implies, implies_true, decide_eq_true_eq, decide_eq_false_iff_not, Nat.reduceSub, Nat.reduceAdd, id_eq, List.length_cons, List.length_nil, List.length_append, reduceCtorEq, and_self, ite_true, ite_false, if_true, if_false, Bool.not_true, Bool.not_false, Bool.not_eq_true', Bool.not_eq_false', outP1, outP2, outP3, noOwn, wipeS, restS, mkSeq, false_and, and_false, eq_self_iff_true, not_true_eq_false, not_false_eq_true, decide_true, decide_false])
  refine ⟨_, _, rfl, .inr (zr fun a b => a + b), zl _, ?_⟩
  (try simp only [wpSs, wpS, wpE, wpA, wpC, wpT, wpTss, wpI, wpAnds, wpOrs, bindT, getS, setS, setsS, outS, slD, Pr.w, Pr.aw, pAdd, pInt, pMul, pCmp, pEq, pIsN, pLt, pLen, pAbs, pNeg, pInt1, pBool, pIsi, pIx, pSlc, pTupD, pLstD, pTupOf, pLstOf, pSum, pBs, pTwo, isNon, isIns, isTp, truth, items, ent, List.replicate, List.cons_append, List.nil_append, Rv.d, bodyP, at0, at1, at2, at3, at4, atm1, ixn1, ixn2, ixn3, set51, set52, set53, get51, D.int.injEq, D.bl.injEq, D.tup.injEq, D.lst.injEq, D.str.injEq, Sl.own.injEq, Sl.val.injEq, Rv.v.injEq, Rv.fr.injEq, Option.some.injEq, List.cons.injEq, exists_eq_left, exists_eq_left', exists_eq, exists_eq', exists_const, exists_and_left, true_and, and_true, true_implies, forall_const, Bool.false_eq_true, Bool.true_eq_false, false_implies, implies_true, decide_eq_true_eq, decide_eq_false_iff_not, Nat.reduceSub, Nat.reduceAdd, id_eq, List.length_cons, List.length_nil, List.length_append, reduceCtorEq, and_self, ite_true, ite_false, if_true, if_false, Bool.not_true, Bool.not_false, Bool.not_eq_true', Bool.not_eq_false', outP1, outP2, outP3, noOwn, wipeS, restS, mkSeq, false_and, and_false, eq_self_iff_true, not_true_eq_false, not_false_eq_true, decide_true, decide_false])
  (try subst hk_law_pair_right_b2); unfold law_pair_right.b2; obtain ⟨k_law_pair_right_b2t0, hk_law_pair_right_b2t0⟩ : ∃ k, k = law_pair_right.b2t0 := ⟨_, rfl⟩; rw [← hk_law_pair_right_b2t0]; obtain ⟨k_law_pair_right_b3, hk_law_pair_right_b3⟩ : ∃ k, k = law_pair_right.b3 := ⟨_, rfl⟩; rw [← hk_law_pair_right_b3]; simp only [G_pair.s0, G_pair.s2, wpSs, wpS, wpE, wpA, wpC, wpT, wpTss, wpI, wpAnds, wpOrs, bindT, getS, setS, setsS, outS, slD, Pr.w, Pr.aw, pAdd, pInt, pMul, pCmp, pEq, pIsN, pLt, pLen, pAbs, pNeg, pInt1, pBool, pIsi, pIx, pSlc, pTupD, pLstD, pTupOf, pLstOf, pSum, pBs, pTwo, isNon, isIns, isTp, truth, items, ent, List.replicate, List.cons_append, List.nil_append, Rv.d, bodyP, at0, at1, at2, at3, at4, atm1, ixn1, ixn2, ixn3, set51, set52, set53, get51, D.int.injEq, D.bl.injEq, D.tup.injEq, D.lst.injEq, D.str.injEq, Sl.own.injEq, Sl.val.injEq, Rv.v.injEq, Rv.fr.injEq, Option.some.injEq, List.cons.injEq, exists_eq_left, exists_eq_left', exists_eq, exists_eq', exists_const, exists_and_left, true_and, and_true, true_implies, forall_const, Bool.false_eq_true, Bool.true_eq_false, false_implies, implies_true, decide_eq_true_eq, decide_eq_false_iff_not, Nat.reduceSub, Nat.reduceAdd, id_eq, List.length_cons, List.length_nil, List.length_append, reduceCtorEq, and_self, ite_true, ite_false, if_true, if_false, Bool.not_true, Bool.not_false, Bool.not_eq_true', Bool.not_eq_false', outP1, outP2, outP3, noOwn, wipeS, restS, mkSeq, false_and, and_false, eq_self_iff_true, not_true_eq_false, not_false_eq_true, decide_true, decide_false]
  refine ⟨as, bs, rfl, ha, hb, ?_⟩
  (try simp only [G_pair.s0, wpSs, wpS, wpE, wpA, wpC, wpT, wpTss, wpI, wpAnds, wpOrs, bindT, getS, setS, setsS, outS, slD, Pr.w, Pr.aw, pAdd, pInt, pMul, pCmp, pEq, pIsN, pLt, pLen, pAbs, pNeg, pInt1, pBool, pIsi, pIx, pSlc, pTupD, pLstD, pTupOf, pLstOf, pSum, pBs, pTwo, isNon, isIns, isTp, truth, items, ent, List.replicate, List.cons_append, List.nil_append, Rv.d, bodyP, at0, at1, at2, at3, at4, atm1, ixn1, ixn2, ixn3, set51, set52, set53, get51, D.int.injEq, D.bl.injEq, D.tup.injEq, D.lst.injEq, D.str.injEq, Sl.own.injEq, Sl.val.injEq, Rv.v.injEq, Rv.fr.injEq, Option.some.injEq, List.cons.injEq, exists_eq_left, exists_eq_left', exists_eq, exists_eq', exists_const, exists_and_left, true_and, and_true, true_implies, forall_const, Bool.false_eq_true, Bool.true_eq_false, false_implies, implies_true, decide_eq_true_eq, decide_eq_false_iff_not, Nat.reduceSub, Nat.reduceAdd, id_eq, List.length_cons, List.length_nil, List.length_append, reduceCtorEq, and_self, ite_true, ite_false, if_true, if_false, Bool.not_true, Bool.not_false, Bool.not_eq_true', Bool.not_eq_false', outP1, outP2, outP3, noOwn, wipeS, restS, mkSeq, false_and, and_false, eq_self_iff_true, not_true_eq_false, not_false_eq_true, decide_true, decide_false])
  refine comp_rng (fun k => .int (as.getD k 0 - bs.getD k 0)) as.length (by omega) (fun k hk R hR => ?_) ?_
  · (try simp only [wpSs, wpS, wpE, wpA, wpC, wpT, wpTss, wpI, wpAnds, wpOrs, bindT, getS, setS, setsS, outS, slD, Pr.w, Pr.aw, pAdd, pInt, pMul, pCmp, pEq, pIsN, pLt, pLen, pAbs, pNeg, pInt1, pBool, pIsi, pIx, pSlc, pTupD, pLstD, pTupOf, pLstOf, pSum, pBs, pTwo, isNon, isIns, isTp, truth, items, ent, List.replicate, List.cons_append, List.nil_append, Rv.d, bodyP, at0, at1, at2, at3, at4, atm1, ixn1, ixn2, ixn3, set51, set52, set53, get51, D.int.injEq, D.bl.injEq, D.tup.injEq, D.lst.injEq, D.str.injEq, Sl.own.injEq, Sl.val.injEq, Rv.v.injEq, Rv.fr.injEq, Option.some.injEq, List.cons.injEq, exists_eq_left, exists_eq_left', exists_eq, exists_eq', exists_const, exists_and_left, true_and, and_true, true_implies, forall_const, Bool.false_eq_true, Bool.true_eq_false, false_implies, implies_true, decide_eq_true_eq, decide_eq_false_iff_not, Nat.reduceSub, Nat.reduceAdd, id_eq, List.length_cons, List.length_nil, List.length_append, reduceCtorEq, and_self, ite_true, ite_false, if_true, if_false, Bool.not_true, Bool.not_false, Bool.not_eq_true', Bool.not_eq_false', outP1, outP2, outP3, noOwn, wipeS, restS, mkSeq, false_and, and_false, eq_self_iff_true, not_true_eq_false, not_false_eq_true, decide_true, decide_false])
    refine ⟨_, ea k hk, _, eb k hk, ?_⟩
    (try simp only [wpSs, wpS, wpE, wpA, wpC, wpT, wpTss, wpI, wpAnds, wpOrs, bindT, getS, setS, setsS, outS, slD, Pr.w, Pr.aw, pAdd, pInt, pMul, pCmp, pEq, pIsN, pLt, pLen, pAbs, pNeg, pInt1, pBool, pIsi, pIx, pSlc, pTupD, pLstD, pTupOf, pLstOf, pSum, pBs, pTwo, isNon, isIns, isTp, truth, items, ent, List.replicate, List.cons_append, List.nil_append, Rv.d, bodyP, at0, at1, at2, at3, at4, atm1, ixn1, ixn2, ixn3, set51, set52, set53, get51, D.int.injEq, D.bl.injEq, D.tup.injEq, D.lst.injEq, D.str.injEq, Sl.own.injEq, Sl.val.injEq, Rv.v.injEq, Rv.fr.injEq, Option.some.injEq, List.cons.injEq, exists_eq_left, exists_eq_left', exists_eq, exists_eq', exists_const, exists_and_left, true_and, and_true, true_implies, forall_const, Bool.false_eq_true, Bool.true_eq_false, false_implies, implies_true, decide_eq_true_eq, decide_eq_false_iff_not, Nat.reduceSub, Nat.reduceAdd, id_eq, List.length_cons, List.length_nil, List.length_append, reduceCtorEq, and_self, ite_true, ite_false, if_true, if_false, Bool.not_true, Bool.not_false, Bool.not_eq_true', Bool.not_eq_false', outP1, outP2, outP3, noOwn, wipeS, restS, mkSeq, false_and, and_false, eq_self_iff_true, not_true_eq_false, not_false_eq_true, decide_true, decide_false])
    exact hR
  (try simp only [G_pair.s0, wpSs, wpS, wpE, wpA, wpC, wpT, wpTss, wpI, wpAnds, wpOrs, bindT, getS, setS, setsS, outS, slD, Pr.w, Pr.aw, pAdd, pInt, pMul, pCmp, pEq, pIsN, pLt, pLen, pAbs, pNeg, pInt1, pBool, pIsi, pIx, pSlc, pTupD, pLstD, pTupOf, pLstOf, pSum, pBs, pTwo, isNon, isIns, isTp, truth, items, ent, List.replicate, List.cons_append, List.nil_append, Rv.d, bodyP, at0, at1, at2, at3, at4, atm1, ixn1, ixn2, ixn3, set51, set52, set53, get51, D.int.injEq, D.bl.injEq, D.tup.injEq, D.lst.injEq, D.str.injEq, Sl.own.injEq, Sl.val.injEq, Rv.v.injEq, Rv.fr.injEq, Option.some.injEq, List.cons.injEq, exists_eq_left, exists_eq_left', exists_eq, exists_eq', exists_const, exists_and_left, true_and, and_true, true_implies, forall_const, Bool.false_eq_true, Bool.true_eq_false, false_implies, implies_true, decide_eq_true_eq, decide_eq_false_iff_not, Nat.reduceSub, Nat.reduceAdd, id_eq, List.length_cons, List.length_nil, List.length_append, reduceCtorEq, and_self, ite_true, ite_false, if_true, if_false, Bool.not_true, Bool.not_false, Bool.not_eq_true', Bool.not_eq_false', outP1, outP2, outP3, noOwn, wipeS, restS, mkSeq, false_and, and_false, eq_self_iff_true, not_true_eq_false, not_false_eq_true, decide_true, decide_false])
  refine ⟨_, _, rfl, .inr (zr fun a b => a - b), zl _, ?_⟩
  (try simp only [wpSs, wpS, wpE, wpA, wpC, wpT, wpTss, wpI, wpAnds, wpOrs, bindT, getS, setS, setsS, outS, slD, Pr.w, Pr.aw, pAdd, pInt, pMul, pCmp, pEq, pIsN, pLt, pLen, pAbs, pNeg, pInt1, pBool, pIsi, pIx, pSlc, pTupD, pLstD, pTupOf, pLstOf, pSum, pBs, pTwo, isNon, isIns, isTp, truth, items, ent, List.replicate, List.cons_append, List.nil_append, Rv.d, bodyP, at0, at1, at2, at3, at4, atm1, ixn1, ixn2, ixn3, set51, set52, set53, get51, D.int.injEq, D.bl.injEq, D.tup.injEq, D.lst.injEq, D.str.injEq, Sl.own.injEq, Sl.val.injEq, Rv.v.injEq, Rv.fr.injEq, Option.some.injEq, List.cons.injEq, exists_eq_left, exists_eq_left', exists_eq, exists_eq', exists_const, exists_and_left, true_and, and_true, true_implies, forall_const, Bool.false_eq_true, Bool.true_eq_false, false_implies, implies_true, decide_eq_true_eq, decide_eq_false_iff_not, Nat.reduceSub, Nat.reduceAdd, id_eq, List.length_cons, List.length_nil, List.length_append, reduceCtorEq, and_self, ite_true, ite_false, if_true, if_false, Bool.not_true, Bool.not_false, Bool.not_eq_true', Bool.not_eq_false', outP1, outP2, outP3, noOwn, wipeS, restS, mkSeq, false_and, and_false, eq_self_iff_true, not_true_eq_false, not_false_eq_true, decide_true, decide_false])
  (try subst hk_law_pair_right_b3); unfold law_pair_right.b3; obtain ⟨k_law_pair_right_b3t0, hk_law_pair_right_b3t0⟩ : ∃ k, k = law_pair_right.b3t0 := ⟨_, rfl⟩; rw [← hk_law_pair_right_b3t0]; obtain ⟨k_law_pair_right_b4, hk_law_pair_right_b4⟩ : ∃ k, k = law_pair_right.b4 := ⟨_, rfl⟩; rw [← hk_law_pair_right_b4]; simp only [G_pair.s0, G_pair.s3, wpSs, wpS, wpE, wpA, wpC, wpT, wpTss, wpI, wpAnds, wpOrs, bindT, getS, setS, setsS, outS, slD, Pr.w, Pr.aw, pAdd, pInt, pMul, pCmp, pEq, pIsN, pLt, pLen, pAbs, pNeg, pInt1, pBool, pIsi, pIx, pSlc, pTupD, pLstD, pTupOf, pLstOf, pSum, pBs, pTwo, isNon, isIns, isTp, truth, items, ent, List.replicate, List.cons_append, List.nil_append, Rv.d, bodyP, at0, at1, at2, at3, at4, atm1, ixn1, ixn2, ixn3, set51, set52, set53, get51, D.int.injEq, D.bl.injEq, D.tup.injEq, D.lst.injEq, D.str.injEq, Sl.own.injEq, Sl.val.injEq, Rv.v.injEq, Rv.fr.injEq, Option.some.injEq, List.cons.injEq, exists_eq_left, exists_eq_left', exists_eq, exists_eq', exists_const, exists_and_left, true_and, and_true, true_implies, forall_const, Bool.false_eq_true, Bool.true_eq_false, false_implies, implies_true, decide_eq_true_eq, decide_eq_false_iff_not, Nat.reduceSub, Nat.reduceAdd, id_eq, List.length_cons, List.length_nil, List.length_append, reduceCtorEq, and_self, ite_true, ite_false, if_true, if_false, Bool.not_true, Bool.not_false, Bool.not_eq_true', Bool.not_eq_false', outP1, outP2, outP3, noOwn, wipeS, restS, mkSeq, false_and, and_false, eq_self_iff_true, not_true_eq_false, not_false_eq_true, decide_true, decide_false]
  refine ⟨as, bs, rfl, ha, hb, ?_⟩
  (try simp only [G_pair.s0, wpSs, wpS, wpE, wpA, wpC, wpT, wpTss, wpI, wpAnds, wpOrs, bindT, getS, setS, setsS, outS, slD, Pr.w, Pr.aw, pAdd, pInt, pMul, pCmp, pEq, pIsN, pLt, pLen, pAbs, pNeg, pInt1, pBool, pIsi, pIx, pSlc, pTupD, pLstD, pTupOf, pLstOf, pSum, pBs, pTwo, isNon, isIns, isTp, truth, items, ent, List.replicate, List.cons_append, List.nil_append, Rv.d, bodyP, at0, at1, at2, at3, at4, atm1, ixn1, ixn2, ixn3, set51, set52, set53, get51, D.int.injEq, D.bl.injEq, D.tup.injEq, D.lst.injEq, D.str.injEq, Sl.own.injEq, Sl.val.injEq, Rv.v.injEq, Rv.fr.injEq, Option.some.injEq, List.cons.injEq, exists_eq_left, exists_eq_left', exists_eq, exists_eq', exists_const, exists_and_left, true_and, and_true, true_implies, forall_const, Bool.false_eq_true, Bool.true_eq_false, false_implies, implies_true, decide_eq_true_eq, decide_eq_false_iff_not, Nat.reduceSub, Nat.reduceAdd, id_eq, List.length_cons, List.length_nil, List.length_append, reduceCtorEq, and_self, ite_true, ite_false, if_true, if_false, Bool.not_true, Bool.not_false, Bool.not_eq_true', Bool.not_eq_false', outP1, outP2, outP3, noOwn, wipeS, restS, mkSeq, false_and, and_false, eq_self_iff_true, not_true_eq_false, not_false_eq_true, decide_true, decide_false])
  refine comp_rng (fun k => .int (mn (as.getD k 0) (bs.getD k 0))) as.length (by omega) (fun k hk R hR => ?_) ?_
  · (try simp only [wpSs, wpS, wpE, wpA, wpC, wpT, wpTss, wpI, wpAnds, wpOrs, bindT, getS, setS, setsS, outS, slD, Pr.w, Pr.aw, pAdd, pInt, pMul, pCmp, pEq, pIsN, pLt, pLen, pAbs, pNeg, pInt1, pBool, pIsi, pIx, pSlc, pTupD, pLstD, pTupOf, pLstOf, pSum, pBs, pTwo, isNon, isIns, isTp, truth, items, ent, List.replicate, List.cons_append, List.nil_append, Rv.d, bodyP, at0, at1, at2, at3, at4, atm1, ixn1, ixn2, ixn3, set51, set52, set53, get51, D.int.injEq, D.bl.injEq, D.tup.injEq, D.lst.injEq, D.str.injEq, Sl.own.injEq, Sl.val.injEq, Rv.v.injEq, Rv.fr.injEq, Option.some.injEq, List.cons.injEq, exists_eq_left, exists_eq_left', exists_eq, exists_eq', exists_const, exists_and_left, true_and, and_true, true_implies, forall_const, Bool.false_eq_true, Bool.true_eq_false, false_implies, implies_true, decide_eq_true_eq, decide_eq_false_iff_not, Nat.reduceSub, Nat.reduceAdd, id_eq, List.length_cons, List.length_nil, List.length_append, reduceCtorEq, and_self, ite_true, ite_false, if_true, if_false, Bool.not_true, Bool.not_false, Bool.not_eq_true', Bool.not_eq_false', outP1, outP2, outP3, noOwn, wipeS, restS, mkSeq, false_and, and_false, eq_self_iff_true, not_true_eq_false, not_false_eq_true, decide_true, decide_false])
    refine ⟨_, ea k hk, _, eb k hk, ?_⟩
    (try simp only [wpSs, wpS, wpE, wpA, wpC, wpT, wpTss, wpI, wpAnds, wpOrs, bindT, getS, setS, setsS, outS, slD, Pr.w, Pr.aw, pAdd, pInt, pMul, pCmp, pEq, pIsN, pLt, pLen, pAbs, pNeg, pInt1, pBool, pIsi, pIx, pSlc, pTupD, pLstD, pTupOf, pLstOf, pSum, pBs, pTwo, isNon, isIns, isTp, truth, items, ent, List.replicate, List.cons_append, List.nil_append, Rv.d, bodyP, at0, at1, at2, at3, at4, atm1, ixn1, ixn2, ixn3, set51, set52, set53, get51, D.int.injEq, D.bl.injEq, D.tup.injEq, D.lst.injEq, D.str.injEq, Sl.own.injEq, Sl.val.injEq, Rv.v.injEq, Rv.fr.injEq, Option.some.injEq, List.cons.injEq, exists_eq_left, exists_eq_left', exists_eq, exists_eq', exists_const, exists_and_left, true_and, and_true, true_implies, forall_const, Bool.false_eq_true, Bool.true_eq_false, false_implies, implies_true, decide_eq_true_eq, decide_eq_false_iff_not, Nat.reduceSub, Nat.reduceAdd, id_eq, List.length_cons, List.length_nil, List.length_append, reduceCtorEq, and_self, ite_true, ite_false, if_true, if_false, Bool.not_true, Bool.not_false, Bool.not_eq_true', Bool.not_eq_false', outP1, outP2, outP3, noOwn, wipeS, restS, mkSeq, false_and, and_false, eq_self_iff_true, not_true_eq_false, not_false_eq_true, decide_true, decide_false])
    rw [show (if bs.getD k 0 < as.getD k 0 then bs.getD k 0 else as.getD k 0) = mn (as.getD k 0) (bs.getD k 0) by unfold mn; split <;> split <;> omega]
    exact hR
  (try simp only [G_pair.s0, wpSs, wpS, wpE, wpA, wpC, wpT, wpTss, wpI, wpAnds, wpOrs, bindT, getS, setS, setsS, outS, slD, Pr.w, Pr.aw, pAdd, pInt, pMul, pCmp, pEq, pIsN, pLt, pLen, pAbs, pNeg, pInt1, pBool, pIsi, pIx, pSlc, pTupD, pLstD, pTupOf, pLstOf, pSum, pBs, pTwo, isNon, isIns, isTp, truth, items, ent, List.replicate, List.cons_append, List.nil_append, Rv.d, bodyP, at0, at1, at2, at3, at4, atm1, ixn1, ixn2, ixn3, set51, set52, set53, get51, D.int.injEq, D.bl.injEq, D.tup.injEq, D.lst.injEq, D.str.injEq, Sl.own.injEq, Sl.val.injEq, Rv.v.injEq, Rv.fr.injEq, Option.some.injEq, List.cons.injEq, exists_eq_left, exists_eq_left', exists_eq, exists_eq', exists_const, exists_and_left, true_and, and_true, true_implies, forall_const, Bool.false_eq_true, Bool.true_eq_false, false_implies, implies_true, decide_eq_true_eq, decide_eq_false_iff_not, Nat.reduceSub, Nat.reduceAdd, id_eq, List.length_cons, List.length_nil, List.length_append, reduceCtorEq, and_self, ite_true, ite_false, if_true, if_false, Bool.not_true, Bool.not_false, Bool.not_eq_true', Bool.not_eq_false', outP1, outP2, outP3, noOwn, wipeS, restS, mkSeq, false_and, and_false, eq_self_iff_true, not_true_eq_false, not_false_eq_true, decide_true, decide_false])
  refine ⟨_, _, rfl, .inr (zr mn), zl _, ?_⟩
  (try simp only [wpSs, wpS, wpE, wpA, wpC, wpT, wpTss, wpI, wpAnds, wpOrs, bindT, getS, setS, setsS, outS, slD, Pr.w, Pr.aw, pAdd, pInt, pMul, pCmp, pEq, pIsN, pLt, pLen, pAbs, pNeg, pInt1, pBool, pIsi, pIx, pSlc, pTupD, pLstD, pTupOf, pLstOf, pSum, pBs, pTwo, isNon, isIns, isTp, truth, items, ent, List.replicate, List.cons_append, List.nil_append, Rv.d, bodyP, at0, at1, at2, at3, at4, atm1, ixn1, ixn2, ixn3, set51, set52, set53, get51, D.int.injEq, D.bl.injEq, D.tup.injEq, D.lst.injEq, D.str.injEq, Sl.own.injEq, Sl.val.injEq, Rv.v.injEq, Rv.fr.injEq, Option.some.injEq, List.cons.injEq, exists_eq_left, exists_eq_left', exists_eq, exists_eq', exists_const, exists_and_left, true_and, and_true, true_implies, forall_const, Bool.false_eq_true, Bool.true_eq_false, false_implies, implies_true, decide_eq_true_eq, decide_eq_false_iff_not, Nat.reduceSub, Nat.reduceAdd, id_eq, List.length_cons, List.length_nil, List.length_append, reduceCtorEq, and_self, ite_true, ite_false, if_true, if_false, Bool.not_true, Bool.not_false, Bool.not_eq_true', Bool.not_eq_false', outP1, outP2, outP3, noOwn, wipeS, restS, mkSeq, false_and, and_false, eq_self_iff_true, not_true_eq_false, not_false_eq_true, decide_true, decide_false])
  (try subst hk_law_pair_right_b4); unfold law_pair_right.b4; obtain ⟨k_law_pair_right_b4t0, hk_law_pair_right_b4t0⟩ : ∃ k, k = law_pair_right.b4t0 := ⟨_, rfl⟩; rw [← hk_law_pair_right_b4t0]; obtain ⟨k_law_pair_right_b5, hk_law_pair_right_b5⟩ : ∃ k, k = law_pair_right.b5 := ⟨_, rfl⟩; rw [← hk_law_pair_right_b5]; simp only [G_pair.s0, G_pair.s4, wpSs, wpS, wpE, wpA, wpC, wpT, wpTss, wpI, wpAnds, wpOrs, bindT, getS, setS, setsS, outS, slD, Pr.w, Pr.aw, pAdd, pInt, pMul, pCmp, pEq, pIsN, pLt, pLen, pAbs, pNeg, pInt1, pBool, pIsi, pIx, pSlc, pTupD, pLstD, pTupOf, pLstOf, pSum, pBs, pTwo, isNon, isIns, isTp, truth, items, ent, List.replicate, List.cons_append, List.nil_append, Rv.d, bodyP, at0, at1, at2, at3, at4, atm1, ixn1, ixn2, ixn3, set51, set52, set53, get51, D.int.injEq, D.bl.injEq, D.tup.injEq, D.lst.injEq, D.str.injEq, Sl.own.injEq, Sl.val.injEq, Rv.v.injEq, Rv.fr.injEq, Option.some.injEq, List.cons.injEq, exists_eq_left, exists_eq_left', exists_eq, exists_eq', exists_const, exists_and_left, true_and, and_true, true_implies, forall_const, Bool.false_eq_true, Bool.true_eq_false, false_implies, implies_true, decide_eq_true_eq, decide_eq_false_iff_not, Nat.reduceSub, Nat.reduceAdd, id_eq, List.length_cons, List.length_nil, List.length_append, reduceCtorEq, and_self, ite_true, ite_false, if_true, if_false, Bool.not_true, Bool.not_false, Bool.not_eq_true', Bool.not_eq_false', outP1, outP2, outP3, noOwn, wipeS, restS, mkSeq, false_and, and_false, eq_self_iff_true, not_true_eq_false, not_false_eq_true, decide_true, decide_false]
  refine ⟨as, bs, rfl, ha, hb, ?_⟩
  (try simp only [G_pair.s0, wpSs, wpS, wpE, wpA, wpC, wpT, wpTss, wpI, wpAnds, wpOrs, bindT, getS, setS, setsS, outS, slD, Pr.w, Pr.aw, pAdd, pInt, pMul, pCmp, pEq, pIsN, pLt, pLen, pAbs, pNeg, pInt1, pBool, pIsi, pIx, pSlc, pTupD, pLstD, pTupOf, pLstOf, pSum, pBs, pTwo, isNon, isIns, isTp, truth, items, ent, List.replicate, List.cons_append, List.nil_append, Rv.d, bodyP, at0, at1, at2, at3, at4, atm1, ixn1, ixn2, ixn3, set51, set52, set53, get51, D.int.injEq, D.bl.injEq, D.tup.injEq, D.lst.injEq, D.str.injEq, Sl.own.injEq, Sl.val.injEq, Rv.v.injEq, Rv.fr.injEq, Option.some.injEq, List.cons.injEq, exists_eq_left, exists_eq_left', exists_eq, exists_eq', exists_const, exists_and_left, true_and, and_true, true_implies, forall_const, Bool.false_eq_true, Bool.true_eq_false, false_implies, implies_true, decide_eq_true_eq, decide_eq_false_iff_not, Nat.reduceSub, Nat.reduceAdd, id_eq, List.length_cons, List.length_nil, List.length_append, reduceCtorEq, and_self, ite_true, ite_false, if_true, if_false, Bool.not_true, Bool.not_false, Bool.not_eq_true', Bool.not_eq_false', outP1, outP2, outP3, noOwn, wipeS, restS, mkSeq, false_and, and_false, eq_self_iff_true, not_true_eq_false, not_false_eq_true, decide_true, decide_false])
  refine comp_rng (fun k => .int (mx (as.getD k 0) (bs.getD k 0))) as.length (by omega) (fun k hk R hR => ?_) ?_
  · (try simp only [wpSs, wpS, wpE, wpA, wpC, wpT, wpTss, wpI, wpAnds, wpOrs, bindT, getS, setS, setsS, outS, slD, Pr.w, Pr.aw, pAdd, pInt, pMul, pCmp, pEq, pIsN, pLt, pLen, pAbs, pNeg, pInt1, pBool, pIsi, pIx, pSlc, pTupD, pLstD, pTupOf, pLstOf, pSum, pBs, pTwo, isNon, isIns, isTp, truth, items, ent, List.replicate, List.cons_append, List.nil_append, Rv.d, bodyP, at0, at1, at2, at3, at4, atm1, ixn1, ixn2, ixn3, set51, set52, set53, get51, D.int.injEq, D.bl.injEq, D.tup.injEq, D.lst.injEq, D.str.injEq, Sl.own.injEq, Sl.val.injEq, Rv.v.injEq, Rv.fr.injEq, Option.some.injEq, List.cons.injEq, exists_eq_left, exists_eq_left', exists_eq, exists_eq', exists_const, exists_and_left, true_and, and_true, true_implies, forall_const, Bool.false_eq_true, Bool.true_eq_false, false_implies, implies_true, decide_eq_true_eq, decide_eq_false_iff_not, Nat.reduceSub, Nat.reduceAdd, id_eq, List.length_cons, List.length_nil, List.length_append, reduceCtorEq, and_self, ite_true, ite_false, if_true, if_false, Bool.not_true, Bool.not_false, Bool.not_eq_true', Bool.not_eq_false', outP1, outP2, outP3, noOwn, wipeS, restS, mkSeq, false_and, and_false, eq_self_iff_true, not_true_eq_false, not_false_eq_true, decide_true, decide_false])
    refine ⟨_, ea k hk, _, eb k hk, ?_⟩
    (try simp only [wpSs, wpS, wpE, wpA, wpC, wpT, wpTss, wpI, wpAnds, wpOrs, bindT, getS, setS, setsS, outS, slD, Pr.w, Pr.aw, pAdd, pInt, pMul, pCmp, pEq, pIsN, pLt, pLen, pAbs, pNeg, pInt1, pBool, pIsi, pIx, pSlc, pTupD, pLstD, pTupOf, pLstOf, pSum, pBs, pTwo, isNon, isIns, isTp, truth, items, ent, List.replicate, List.cons_append, List.nil_append, Rv.d, bodyP, at0, at1, at2, at3, at4, atm1, ixn1, ixn2, ixn3, set51, set52, set53, get51, D.int.injEq, D.bl.injEq, D.tup.injEq, D.lst.injEq, D.str.injEq, Sl.own.injEq, Sl.val.injEq, Rv.v.injEq, Rv.fr.injEq, Option.some.injEq, List.cons.injEq, exists_eq_left, exists_eq_left', exists_eq, exists_eq', exists_const, exists_and_left, true_and, and_true, true_implies, forall_const, Bool.false_eq_true, Bool.true_eq_false, false_implies, implies_true, decide_eq_true_eq, decide_eq_false_iff_not, Nat.reduceSub, Nat.reduceAdd, id_eq, List.length_cons, List.length_nil, List.length_append, reduceCtorEq, and_self, ite_true, ite_false, if_true, if_false, Bool.not_true, Bool.not_false, Bool.not_eq_true', Bool.not_eq_false', outP1, outP2, outP3, noOwn, wipeS, restS, mkSeq, false_and, and_false, eq_self_iff_true, not_true_eq_false, not_false_eq_true, decide_true, decide_false])
    rw [show (if bs.getD k 0 > as.getD k 0 then bs.getD k 0 else as.getD k 0) = mx (as.getD k 0) (bs.getD k 0) by unfold mx; split <;> split <;> omega]
    exact hR
  (try simp only [G_pair.s0, wpSs, wpS, wpE, wpA, wpC, wpT, wpTss, wpI, wpAnds, wpOrs, bindT, getS, setS, setsS, outS, slD, Pr.w, Pr.aw, pAdd, pInt, pMul, pCmp, pEq, pIsN, pLt, pLen, pAbs, pNeg, pInt1, pBool, pIsi, pIx, pSlc, pTupD, pLstD, pTupOf, pLstOf, pSum, pBs, pTwo, isNon, isIns, isTp, truth, items, ent, List.replicate, List.cons_append, List.nil_append, Rv.d, bodyP, at0, at1, at2, at3, at4, atm1, ixn1, ixn2, ixn3, set51, set52, set53, get51, D.int.injEq, D.bl.injEq, D.tup.injEq, D.lst.injEq, D.str.injEq, Sl.own.injEq, Sl.val.injEq, Rv.v.injEq, Rv.fr.injEq, Option.some.injEq, List.cons.injEq, exists_eq_left, exists_eq_left', exists_eq, exists_eq', exists_const, exists_and_left, true_and, and_true, true_implies, forall_const, Bool.false_eq_true, Bool.true_eq_false, false_implies, implies_true, decide_eq_true_eq, decide_eq_false_iff_not, Nat.reduceSub, Nat.reduceAdd, id_eq, List.length_cons, List.length_nil, List.length_append, reduceCtorEq, and_self, ite_true, ite_false, if_true, if_false, Bool.not_true, Bool.not_false, Bool.not_eq_true', Bool.not_eq_false', outP1, outP2, outP3, noOwn, wipeS, restS, mkSeq, false_and, and_false, eq_self_iff_true, not_true_eq_false, not_false_eq_true, decide_true, decide_false])
  refine ⟨_, _, rfl, .inr (zr mx), zl _, ?_⟩
  (try simp only [wpSs, wpS, wpE, wpA, wpC, wpT, wpTss, wpI, wpAnds, wpOrs, bindT, getS, setS, setsS, outS, slD, Pr.w, Pr.aw, pAdd, pInt, pMul, pCmp, pEq, pIsN, pLt, pLen, pAbs, pNeg, pInt1, pBool, pIsi, pIx, pSlc, pTupD, pLstD, pTupOf, pLstOf, pSum, pBs, pTwo, isNon, isIns, isTp, truth, items, ent, List.replicate, List.cons_append, List.nil_append, Rv.d, bodyP, at0, at1, at2, at3, at4, atm1, ixn1, ixn2, ixn3, set51, set52, set53, get51, D.int.injEq, D.bl.injEq, D.tup.injEq, D.lst.injEq, D.str.injEq, Sl.own.injEq, Sl.val.injEq, Rv.v.injEq, Rv.fr.injEq, Option.some.injEq, List.cons.injEq, exists_eq_left, exists_eq_left', exists_eq, exists_eq', exists_const, exists_and_left, true_and, and_true, true_implies, forall_const, Bool.false_eq_true, Bool.true_eq_false, false_implies, implies_true, decide_eq_true_eq, decide_eq_false_iff_not, Nat.reduceSub, Nat.reduceAdd, id_eq, List.length_cons, List.length_nil, List.length_append, reduceCtorEq, and_self, ite_true, ite_false, if_true, if_false, Bool.not_true, Bool.not_false, Bool.not_eq_true', Bool.not_eq_false', outP1, outP2, outP3, noOwn, wipeS, restS, mkSeq, false_and, and_false, eq_self_iff_true, not_true_eq_false, not_false_eq_true, decide_true, decide_false])
  (try subst hk_law_pair_right_b5); unfold law_pair_right.b5; obtain ⟨k_law_pair_right_b6, hk_law_pair_right_b6⟩ : ∃ k, k = law_pair_right.b6 := ⟨_, rfl⟩; rw [← hk_law_pair_right_b6]; simp only [G_pair.s5, wpSs, wpS, wpE, wpA, wpC, wpT, wpTss, wpI, wpAnds, wpOrs, bindT, getS, setS, setsS, outS, slD, Pr.w, Pr.aw, pAdd, pInt, pMul, pCmp, pEq, pIsN, pLt, pLen, pAbs, pNeg, pInt1, pBool, pIsi, pIx, pSlc, pTupD, pLstD, pTupOf, pLstOf, pSum, pBs, pTwo, isNon, isIns, isTp, truth, items, ent, List.replicate, List.cons_append, List.nil_append, Rv.d, bodyP, at0, at1, at2, at3, at4, atm1, ixn1, ixn2, ixn3, set51, set52, set53, get51, D.int.injEq, D.bl.injEq, D.tup.injEq, D.lst.injEq, D.str.injEq, Sl.own.injEq, Sl.val.injEq, Rv.v.injEq, Rv.fr.injEq, Option.some.injEq, List.cons.injEq, exists_eq_left, exists_eq_left', exists_eq, exists_eq', exists_const, exists_and_left, true_and, and_true, true_implies, forall_const, Bool.false_eq_true, Bool.true_eq_false, false_implies, implies_true, decide_eq_true_eq, decide_eq_false_iff_not, Nat.reduceSub, Nat.reduceAdd, id_eq, List.length_cons, List.length_nil, List.length_append, reduceCtorEq, and_self, ite_true, ite_false, if_true, if_false, Bool.not_true, Bool.not_false, Bool.not_eq_true', Bool.not_eq_false', outP1, outP2, outP3, noOwn, wipeS, restS, mkSeq, false_and, and_false, eq_self_iff_true, not_true_eq_false, not_false_eq_true, decide_true, decide_false]
  refine ⟨as, bs, rfl, ?_⟩
  (try simp only [wpSs, wpS, wpE, wpA, wpC, wpT, wpTss, wpI, wpAnds, wpOrs, bindT, getS, setS, setsS, outS, slD, Pr.w, Pr.aw, pAdd, pInt, pMul, pCmp, pEq, pIsN, pLt, pLen, pAbs, pNeg, pInt1, pBool, pIsi, pIx, pSlc, pTupD, pLstD, pTupOf, pLstOf, pSum, pBs, pTwo, isNon, isIns, isTp, truth, items, ent, List.replicate, List.cons_append, List.nil_append, Rv.d, bodyP, at0, at1, at2, at3, at4, atm1, ixn1, ixn2, ixn3, set51, set52, set53, get51, D.int.injEq, D.bl.injEq, D.tup.injEq, D.lst.injEq, D.str.injEq, Sl.own.injEq, Sl.val.injEq, Rv.v.injEq, Rv.fr.injEq, Option.some.injEq, List.cons.injEq, exists_eq_left, exists_eq_left', exists_eq, exists_eq', exists_const, exists_and_left, true_and, and_true, true_implies, forall_const, Bool.false_eq_true, Bool.true_eq_false, false_implies, implies_true, decide_eq_true_eq, decide_eq_false_iff_not, Nat.reduceSub, Nat.reduceAdd, id_eq, List.length_cons, List.length_nil, List.length_append, reduceCtorEq, and_self, ite_true, ite_false, if_true, if_false, Bool.not_true, Bool.not_false, Bool.not_eq_true', Bool.not_eq_false', outP1, outP2, outP3, noOwn, wipeS, restS, mkSeq, false_and, and_false, eq_self_iff_true, not_true_eq_false, not_false_eq_true, decide_true, decide_false])
  (try subst hk_law_pair_right_b6); unfold law_pair_right.b6; obtain ⟨k_law_pair_right_b6t0, hk_law_pair_right_b6t0⟩ : ∃ k, k = law_pair_right.b6t0 := ⟨_, rfl⟩; rw [← hk_law_pair_right_b6t0]; obtain ⟨k_law_pair_right_b7, hk_law_pair_right_b7⟩ : ∃ k, k = law_pair_right.b7 := ⟨_, rfl⟩; rw [← hk_law_pair_right_b7]; simp only [wpSs, wpS, wpE, wpA, wpC, wpT, wpTss, wpI, wpAnds, wpOrs, bindT, getS, setS, setsS, outS, slD, Pr.w, Pr.aw, pAdd, pInt, pMul, pCmp, pEq, pIsN, pLt, pLen, pAbs, pNeg, pInt1, pBool, pIsi, pIx, pSlc, pTupD, pLstD, pTupOf, pLstOf, pSum, pBs, pTwo, isNon, isIns, isTp, truth, items, ent, List.replicate, List.cons_append, List.nil_append, Rv.d, bodyP, at0, at1, at2, at3, at4, atm1, ixn1, ixn2, ixn3, set51, set52, set53, get51, D.int.injEq, D.bl.injEq, D.tup.injEq, D.lst.injEq, D.str.injEq, Sl.own.injEq, Sl.val.injEq, Rv.v.injEq, Rv.fr.injEq, Option.some.injEq, List.cons.injEq, exists_eq_left, exists_eq_left', exists_eq, exists_eq', exists_const, exists_and_left, true_and, and_true, true_implies, forall_const, Bool.false_eq_true, Bool.true_eq_false, false_implies, implies_true, decide_eq_true_eq, decide_eq_false_iff_not, Nat.reduceSub, Nat.reduceAdd, id_eq, List.length_cons, List.length_nil, List.length_append, reduceCtorEq, and_self, ite_true, ite_false, if_true, if_false, Bool.not_true, Bool.not_false, Bool.not_eq_true', Bool.not_eq_false', outP1, outP2, outP3, noOwn, wipeS, restS, mkSeq, false_and, and_false, eq_self_iff_true, not_true_eq_false, not_false_eq_true, decide_true, decide_false]
  refine comp_rng (fun k => .bl (decide (as.getD k 0 ≤ bs.getD k 0))) as.length (by omega) (fun k hk R hR => ?_) ?_
  · (try simp only [wpSs, wpS, wpE, wpA, wpC, wpT, wpTss, wpI, wpAnds, wpOrs, bindT, getS, setS, setsS, outS, slD, Pr.w, Pr.aw, pAdd, pInt, pMul, pCmp, pEq, pIsN, pLt, pLen, pAbs, pNeg, pInt1, pBool, pIsi, pIx, pSlc, pTupD, pLstD, pTupOf, pLstOf, pSum, pBs, pTwo, isNon, isIns, isTp, truth, items, ent, List.replicate, List.cons_append, List.nil_append, Rv.d, bodyP, at0, at1, at2, at3, at4, atm1, ixn1, ixn2, ixn3, set51, set52, set53, get51, D.int.injEq, D.bl.injEq, D.tup.injEq, D.lst.injEq, D.str.injEq, Sl.own.injEq, Sl.val.injEq, Rv.v.injEq, Rv.fr.injEq, Option.some.injEq, List.cons.injEq, exists_eq_left, exists_eq_left', exists_eq, exists_eq', exists_const, exists_and_left, true_and, and_true, true_implies, forall_const, Bool.false_eq_true, Bool.true_eq_false, false_implies, implies_true, decide_eq_true_eq, decide_eq_false_iff_not, Nat.reduceSub, Nat.reduceAdd, id_eq, List.length_cons, List.length_nil, List.length_append, reduceCtorEq, and_self, ite_true, ite_false, if_true, if_false, Bool.not_true, Bool.not_false, Bool.not_eq_true', Bool.not_eq_false', outP1, outP2, outP3, noOwn, wipeS, restS, mkSeq, false_and, and_false, eq_self_iff_true, not_true_eq_false, not_false_eq_true, decide_true, decide_false])
    refine ⟨_, ea k hk, _, eb k hk, ?_⟩
    (try simp only [wpSs, wpS, wpE, wpA, wpC, wpT, wpTss, wpI, wpAnds, wpOrs, bindT, getS, setS, setsS, outS, slD, Pr.w, Pr.aw, pAdd, pInt, pMul, pCmp, pEq, pIsN, pLt, pLen, pAbs, pNeg, pInt1, pBool, pIsi, pIx, pSlc, pTupD, pLstD, pTupOf, pLstOf, pSum, pBs, pTwo, isNon, isIns, isTp, truth, items, ent, List.replicate, List.cons_append, List.nil_append, Rv.d, bodyP, at0, at1, at2, at3, at4, atm1, ixn1, ixn2, ixn3, set51, set52, set53, get51, D.int.injEq, D.bl.injEq, D.tup.injEq, D.lst.injEq, D.str.injEq, Sl.own.injEq, Sl.val.injEq, Rv.v.injEq, Rv.fr.injEq, Option.some.injEq, List.cons.injEq, exists_eq_left, exists_eq_left', exists_eq, exists_eq', exists_const, exists_and_left, true_and, and_true, true_implies, forall_const, Bool.false_eq_true, Bool.true_eq_false, false_implies, implies_true, decide_eq_true_eq, decide_eq_false_iff_not, Nat.reduceSub, Nat.reduceAdd, id_eq, List.length_cons, List.length_nil, List.length_append, reduceCtorEq, and_self, ite_true, ite_false, if_true, if_false, Bool.not_true, Bool.not_false, Bool.not_eq_true', Bool.not_eq_false', outP1, outP2, outP3, noOwn, wipeS, restS, mkSeq, false_and, and_false, eq_self_iff_true, not_true_eq_false, not_false_eq_true, decide_true, decide_false])
    exact hR
  (try simp only [wpSs, wpS, wpE, wpA, wpC, wpT, wpTss, wpI, wpAnds, wpOrs, bindT, getS, setS, setsS, outS, slD, Pr.w, Pr.aw, pAdd, pInt, pMul, pCmp, pEq, pIsN, pLt, pLen, pAbs, pNeg, pInt1, pBool, pIsi, pIx, pSlc, pTupD, pLstD, pTupOf, pLstOf, pSum, pBs, pTwo, isNon, isIns, isTp, truth, items, ent, List.replicate, List.cons_append, List.nil_append, Rv.d, bodyP, at0, at1, at2, at3, at4, atm1, ixn1, ixn2, ixn3, set51, set52, set53, get51, D.int.injEq, D.bl.injEq, D.tup.injEq, D.lst.injEq, D.str.injEq, Sl.own.injEq, Sl.val.injEq, Rv.v.injEq, Rv.fr.injEq, Option.some.injEq, List.cons.injEq, exists_eq_left, exists_eq_left', exists_eq, exists_eq', exists_const, exists_and_left, true_and, and_true, true_implies, forall_const, Bool.false_eq_true, Bool.true_eq_false, false_implies, implies_true, decide_eq_true_eq, decide_eq_false_iff_not, Nat.reduceSub, Nat.reduceAdd, id_eq, List.length_cons, List.length_nil, List.length_append, reduceCtorEq, and_self, ite_true, ite_false, if_true, if_false, Bool.not_true, Bool.not_false, Bool.not_eq_true', Bool.not_eq_false', outP1, outP2, outP3, noOwn, wipeS, restS, mkSeq, false_and, and_false, eq_self_iff_true, not_true_eq_false, not_false_eq_true, decide_true, decide_false])
  refine ⟨(List.range as.length).map fun k => decide (as.getD k 0 ≤ bs.getD k 0), by rw [List.map_map]; rfl, ?_⟩
  rw [zip_range rfl hab.symm, List.all_map, List.all_map]
  (try simp only [deq_bl, plain_bl, wpSs, wpS, wpE, wpA, wpC, wpT, wpTss, wpI, wpAnds, wpOrs, bindT, getS, setS, setsS, outS, slD, Pr.w, Pr.aw, pAdd, pInt, pMul, pCmp, pEq, pIsN, pLt, pLen, pAbs, pNeg, pInt1, pBool, pIsi, pIx, pSlc, pTupD, pLstD, pTupOf, pLstOf, pSum, pBs, pTwo, isNon, isIns, isTp, truth, items, ent, List.replicate, List.cons_append, List.nil_append, Rv.d, bodyP, at0, at1, at2, at3, at4, atm1, ixn1, ixn2, ixn3, set51, set52, set53, get51, D.int.injEq, D.bl.injEq, D.tup.injEq, D.lst.injEq, D.str.injEq, Sl.own.injEq, Sl.val.injEq, Rv.v.injEq, Rv.fr.injEq, Option.some.injEq, List.cons.injEq, exists_eq_left, exists_eq_left', exists_eq, exists_eq', exists_const, exists_and_left, true_and, and_true, true_implies, forall_const, Bool.false_eq_true, Bool.true_eq_false, false_implies, implies_true, decide_eq_true_eq, decide_eq_false_iff_not, Nat.reduceSub, Nat.reduceAdd, id_eq, List.length_cons, List.length_nil, List.length_append, reduceCtorEq, and_self, ite_true, ite_false, if_true, if_false, Bool.not_true, Bool.not_false, Bool.not_eq_true', Bool.not_eq_false', outP1, outP2, outP3, noOwn, wipeS, restS, mkSeq, false_and, and_false, eq_self_iff_true, not_true_eq_false, not_false_eq_true, decide_true, decide_false])
  refine ⟨fun _ => ?_, fun h => absurd rfl h⟩
  (try subst hk_law_pair_right_b7); unfold law_pair_right.b7; obtain ⟨k_law_pair_right_b8, hk_law_pair_right_b8⟩ : ∃ k, k = law_pair_right.b8 := ⟨_, rfl⟩; rw [← hk_law_pair_right_b8]; simp only [G_pair.s6, wpSs, wpS, wpE, wpA, wpC, wpT, wpTss, wpI, wpAnds, wpOrs, bindT, getS, setS, setsS, outS, slD, Pr.w, Pr.aw, pAdd, pInt, pMul, pCmp, pEq, pIsN, pLt, pLen, pAbs, pNeg, pInt1, pBool, pIsi, pIx, pSlc, pTupD, pLstD, pTupOf, pLstOf, pSum, pBs, pTwo, isNon, isIns, isTp, truth, items, ent, List.replicate, List.cons_append, List.nil_append, Rv.d, bodyP, at0, at1, at2, at3, at4, atm1, ixn1, ixn2, ixn3, set51, set52, set53, get51, D.int.injEq, D.bl.injEq, D.tup.injEq, D.lst.injEq, D.str.injEq, Sl.own.injEq, Sl.val.injEq, Rv.v.injEq, Rv.fr.injEq, Option.some.injEq, List.cons.injEq, exists_eq_left, exists_eq_left', exists_eq, exists_eq', exists_const, exists_and_left, true_and, and_true, true_implies, forall_const, Bool.false_eq_true, Bool.true_eq_false, false_implies, implies_true, decide_eq_true_eq, decide_eq_false_iff_not, Nat.reduceSub, Nat.reduceAdd, id_eq, List.length_cons, List.length_nil, List.length_append, reduceCtorEq, and_self, ite_true, ite_false, if_true, if_false, Bool.not_true, Bool.not_false, Bool.not_eq_true', Bool.not_eq_false', outP1, outP2, outP3, noOwn, wipeS, restS, mkSeq, false_and, and_false, eq_self_iff_true, not_true_eq_false, not_false_eq_true, decide_true, decide_false]
  refine ⟨as, bs, rfl, ?_⟩
  (try simp only [wpSs, wpS, wpE, wpA, wpC, wpT, wpTss, wpI, wpAnds, wpOrs, bindT, getS, setS, setsS, outS, slD, Pr.w, Pr.aw, pAdd, pInt, pMul, pCmp, pEq, pIsN, pLt, pLen, pAbs, pNeg, pInt1, pBool, pIsi, pIx, pSlc, pTupD, pLstD, pTupOf, pLstOf, pSum, pBs, pTwo, isNon, isIns, isTp, truth, items, ent, List.replicate, List.cons_append, List.nil_append, Rv.d, bodyP, at0, at1, at2, at3, at4, atm1, ixn1, ixn2, ixn3, set51, set52, set53, get51, D.int.injEq, D.bl.injEq, D.tup.injEq, D.lst.injEq, D.str.injEq, Sl.own.injEq, Sl.val.injEq, Rv.v.injEq, Rv.fr.injEq, Option.some.injEq, List.cons.injEq, exists_eq_left, exists_eq_left', exists_eq, exists_eq', exists_const, exists_and_left, true_and, and_true, true_implies, forall_const, Bool.false_eq_true, Bool.true_eq_false, false_implies, implies_true, decide_eq_true_eq, decide_eq_false_iff_not, Nat.reduceSub, Nat.reduceAdd, id_eq, List.length_cons, List.length_nil, List.length_append, reduceCtorEq, and_self, ite_true, ite_false, if_true, if_false, Bool.not_true, Bool.not_false, Bool.not_eq_true', Bool.not_eq_false', outP1, outP2, outP3, noOwn, wipeS, restS, mkSeq, false_and, and_false, eq_self_iff_true, not_true_eq_false, not_false_eq_true, decide_true, decide_false])
  (try subst hk_law_pair_right_b8); unfold law_pair_right.b8; obtain ⟨k_law_pair_right_b8t0, hk_law_pair_right_b8t0⟩ : ∃ k, k = law_pair_right.b8t0 := ⟨_, rfl⟩; rw [← hk_law_pair_right_b8t0]; obtain ⟨k_law_pair_right_b9, hk_law_pair_right_b9⟩ : ∃ k, k = law_pair_right.b9 := ⟨_, rfl⟩; rw [← hk_law_pair_right_b9]; simp only [wpSs, wpS, wpE, wpA, wpC, wpT, wpTss, wpI, wpAnds, wpOrs, bindT, getS, setS, setsS, outS, slD, Pr.w, Pr.aw, pAdd, pInt, pMul, pCmp, pEq, pIsN, pLt, pLen, pAbs, pNeg, pInt1, pBool, pIsi, pIx, pSlc, pTupD, pLstD, pTupOf, pLstOf, pSum, pBs, pTwo, isNon, isIns, isTp, truth, items, ent, List.replicate, List.cons_append, List.nil_append, Rv.d, bodyP, at0, at1, at2, at3, at4, atm1, ixn1, ixn2, ixn3, set51, set52, set53, get51, D.int.injEq, D.bl.injEq, D.tup.injEq, D.lst.injEq, D.str.injEq, Sl.own.injEq, Sl.val.injEq, Rv.v.injEq, Rv.fr.injEq, Option.some.injEq, List.cons.injEq, exists_eq_left, exists_eq_left', exists_eq, exists_eq', exists_const, exists_and_left, true_and, and_true, true_implies, forall_const, Bool.false_eq_true, Bool.true_eq_false, false_implies, implies_true, decide_eq_true_eq, decide_eq_false_iff_not, Nat.reduceSub, Nat.reduceAdd, id_eq, List.length_cons, List.length_nil, List.length_append, reduceCtorEq, and_self, ite_true, ite_false, if_true, if_false, Bool.not_true, Bool.not_false, Bool.not_eq_true', Bool.not_eq_false', outP1, outP2, outP3, noOwn, wipeS, restS, mkSeq, false_and, and_false, eq_self_iff_true, not_true_eq_false, not_false_eq_true, decide_true, decide_false]
  refine comp_rng (fun k => .bl (decide (0 < as.getD k 0) && decide (0 < bs.getD k 0))) as.length (by omega) (fun k hk R hR => ?_) ?_
  · (try simp only [wpSs, wpS, wpE, wpA, wpC, wpT, wpTss, wpI, wpAnds, wpOrs, bindT, getS, setS, setsS, outS, slD, Pr.w, Pr.aw, pAdd, pInt, pMul, pCmp, pEq, pIsN, pLt, pLen, pAbs, pNeg, pInt1, pBool, pIsi, pIx, pSlc, pTupD, pLstD, pTupOf, pLstOf, pSum, pBs, pTwo, isNon, isIns, isTp, truth, items, ent, List.replicate, List.cons_append, List.nil_append, Rv.d, bodyP, at0, at1, at2, at3, at4, atm1, ixn1, ixn2, ixn3, set51, set52, set53, get51, D.int.injEq, D.bl.injEq, D.tup.injEq, D.lst.injEq, D.str.injEq, Sl.own.injEq, Sl.val.injEq, Rv.v.injEq, Rv.fr.injEq, Option.some.injEq, List.cons.injEq, exists_eq_left, exists_eq_left', exists_eq, exists_eq', exists_const, exists_and_left, true_and, and_true, true_implies, forall_const, Bool.false_eq_true, Bool.true_eq_false, false_implies, implies_true, decide_eq_true_eq, decide_eq_false_iff_not, Nat.reduceSub, Nat.reduceAdd, id_eq, List.length_cons, List.length_nil, List.length_append, reduceCtorEq, and_self, ite_true, ite_false, if_true, if_false, Bool.not_true, Bool.not_false, Bool.not_eq_true', Bool.not_eq_false', outP1, outP2, outP3, noOwn, wipeS, restS, mkSeq, false_and, and_false, eq_self_iff_true, not_true_eq_false, not_false_eq_true, decide_true, decide_false])
    refine ⟨_, ea k hk, ?_⟩
    (try simp only [wpSs, wpS, wpE, wpA, wpC, wpT, wpTss, wpI, wpAnds, wpOrs, bindT, getS, setS, setsS, outS, slD, Pr.w, Pr.aw, pAdd, pInt, pMul, pCmp, pEq, pIsN, pLt, pLen, pAbs, pNeg, pInt1, pBool, pIsi, pIx, pSlc, pTupD, pLstD, pTupOf, pLstOf, pSum, pBs, pTwo, isNon, isIns, isTp, truth, items, ent, List.replicate, List.cons_append, List.nil_append, Rv.d, bodyP, at0, at1, at2, at3, at4, atm1, ixn1, ixn2, ixn3, set51, set52, set53, get51, D.int.injEq, D.bl.injEq, D.tup.injEq, D.lst.injEq, D.str.injEq, Sl.own.injEq, Sl.val.injEq, Rv.v.injEq, Rv.fr.injEq, Option.some.injEq, List.cons.injEq, exists_eq_left, exists_eq_left', exists_eq, exists_eq', exists_const, exists_and_left, true_and, and_true, true_implies, forall_const, Bool.false_eq_true, Bool.true_eq_false, false_implies, implies_true, decide_eq_true_eq, decide_eq_false_iff_not, Nat.reduceSub, Nat.reduceAdd, id_eq, List.length_cons, List.length_nil, List.length_append, reduceCtorEq, and_self, ite_true, ite_false, if_true, if_false, Bool.not_true, Bool.not_false, Bool.not_eq_true', Bool.not_eq_false', outP1, outP2, outP3, noOwn, wipeS, restS, mkSeq, false_and, and_false, eq_self_iff_true, not_true_eq_false, not_false_eq_true, decide_true, decide_false])
    refine ⟨fun h => ?_, fun h => ?_⟩
    · refine ⟨_, eb k hk, ?_⟩
      (try simp only [wpSs, wpS, wpE, wpA, wpC, wpT, wpTss, wpI, wpAnds, wpOrs, bindT, getS, setS, setsS, outS, slD, Pr.w, Pr.aw, pAdd, pInt, pMul, pCmp, pEq, pIsN, pLt, pLen, pAbs, pNeg, pInt1, pBool, pIsi, pIx, pSlc, pTupD, pLstD, pTupOf, pLstOf, pSum, pBs, pTwo, isNon, isIns, isTp, truth, items, ent, List.replicate, List.cons_append, List.nil_append, Rv.d, bodyP, at0, at1, at2, at3, at4, atm1, ixn1, ixn2, ixn3, set51, set52, set53, get51, D.int.injEq, D.bl.injEq, D.tup.injEq, D.lst.injEq, D.str.injEq, Sl.own.injEq, Sl.val.injEq, Rv.v.injEq, Rv.fr.injEq, Option.some.injEq, List.cons.injEq, exists_eq_left, exists_eq_left', exists_eq, exists_eq', exists_const, exists_and_left, true_and, and_true, true_implies, forall_const, Bool.false_eq_true, Bool.true_eq_false, false_implies, implies_true, decide_eq_true_eq, decide_eq_false_iff_not, Nat.reduceSub, Nat.reduceAdd, id_eq, List.length_cons, List.length_nil, List.length_append, reduceCtorEq, and_self, ite_true, ite_false, if_true, if_false, Bool.not_true, Bool.not_false, Bool.not_eq_true', Bool.not_eq_false', outP1, outP2, outP3, noOwn, wipeS, restS, mkSeq, false_and, and_false, eq_self_iff_true, not_true_eq_false, not_false_eq_true, decide_true, decide_false])
      rw [decide_eq_true h, Bool.true_and] at hR
      exact hR
    · rw [decide_eq_false h, Bool.false_and] at hR
      exact hR
  (try simp only [wpSs, wpS, wpE, wpA, wpC, wpT, wpTss, wpI, wpAnds, wpOrs, bindT, getS, setS, setsS, outS, slD, Pr.w, Pr.aw, pAdd, pInt, pMul, pCmp, pEq, pIsN, pLt, pLen, pAbs, pNeg, pInt1, pBool, pIsi, pIx, pSlc, pTupD, pLstD, pTupOf, pLstOf, pSum, pBs, pTwo, isNon, isIns, isTp, truth, items, ent, List.replicate, List.cons_append, List.nil_append, Rv.d, bodyP, at0, at1, at2, at3, at4, atm1, ixn1, ixn2, ixn3, set51, set52, set53, get51, D.int.injEq, D.bl.injEq, D.tup.injEq, D.lst.injEq, D.str.injEq, Sl.own.injEq, Sl.val.injEq, Rv.v.injEq, Rv.fr.injEq, Option.some.injEq, List.cons.injEq, exists_eq_left, exists_eq_left', exists_eq, exists_eq', exists_const, exists_and_left, true_and, and_true, true_implies, forall_const, Bool.false_eq_true, Bool.true_eq_false, false_implies, implies_true, decide_eq_true_eq, decide_eq_false_iff_not, Nat.reduceSub, Nat.reduceAdd, id_eq, List.length_cons, List.length_nil, List.length_append, reduceCtorEq, and_self, ite_true, ite_false, if_true, if_false, Bool.not_true, Bool.not_false, Bool.not_eq_true', Bool.not_eq_false', outP1, outP2, outP3, noOwn, wipeS, restS, mkSeq, false_and, and_false, eq_self_iff_true, not_true_eq_false, not_false_eq_true, decide_true, decide_false])
  refine ⟨(List.range as.length).map fun k => decide (0 < as.getD k 0) && decide (0 < bs.getD k 0), by rw [List.map_map]; rfl, ?_⟩
  rw [zip_range rfl hab.symm, List.any_map, List.any_map]
  (try simp only [deq_bl, plain_bl, wpSs, wpS, wpE, wpA, wpC, wpT, wpTss, wpI, wpAnds, wpOrs, bindT, getS, setS, setsS, outS, slD, Pr.w, Pr.aw, pAdd, pInt, pMul, pCmp, pEq, pIsN, pLt, pLen, pAbs, pNeg, pInt1, pBool, pIsi, pIx, pSlc, pTupD, pLstD, pTupOf, pLstOf, pSum, pBs, pTwo, isNon, isIns, isTp, truth, items, ent, List.replicate, List.cons_append, List.nil_append, Rv.d, bodyP, at0, at1, at2, at3, at4, atm1, ixn1, ixn2, ixn3, set51, set52, set53, get51, D.int.injEq, D.bl.injEq, D.tup.injEq, D.lst.injEq, D.str.injEq, Sl.own.injEq, Sl.val.injEq, Rv.v.injEq, Rv.fr.injEq, Option.some.injEq, List.cons.injEq, exists_eq_left, exists_eq_left', exists_eq, exists_eq', exists_const, exists_and_left, true_and, and_true, true_implies, forall_const, Bool.false_eq_true, Bool.true_eq_false, false_implies, implies_true, decide_eq_true_eq, decide_eq_false_iff_not, Nat.reduceSub, Nat.reduceAdd, id_eq, List.length_cons, List.length_nil, List.length_append, reduceCtorEq, and_self, ite_true, ite_false, if_true, if_false, Bool.not_true, Bool.not_false, Bool.not_eq_true', Bool.not_eq_false', outP1, outP2, outP3, noOwn, wipeS, restS, mkSeq, false_and, and_false, eq_self_iff_true, not_true_eq_false, not_false_eq_true, decide_true, decide_false])
  refine ⟨fun _ => ?_, fun h => absurd rfl h⟩
  (try subst hk_law_pair_right_b9); unfold law_pair_right.b9; obtain ⟨k_law_pair_right_b10, hk_law_pair_right_b10⟩ : ∃ k, k = law_pair_right.b10 := ⟨_, rfl⟩; rw [← hk_law_pair_right_b10]; simp only [G_pair.s7, wpSs, wpS, wpE, wpA, wpC, wpT, wpTss, wpI, wpAnds, wpOrs, bindT, getS, setS, setsS, outS, slD, Pr.w, Pr.aw, pAdd, pInt, pMul, pCmp, pEq, pIsN, pLt, pLen, pAbs, pNeg, pInt1, pBool, pIsi, pIx, pSlc, pTupD, pLstD, pTupOf, pLstOf, pSum, pBs, pTwo, isNon, isIns, isTp, truth, items, ent, List.replicate, List.cons_append, List.nil_append, Rv.d, bodyP, at0, at1, at2, at3, at4, atm1, ixn1, ixn2, ixn3, set51, set52, set53, get51, D.int.injEq, D.bl.injEq, D.tup.injEq, D.lst.injEq, D.str.injEq, Sl.own.injEq, Sl.val.injEq, Rv.v.injEq, Rv.fr.injEq, Option.some.injEq, List.cons.injEq, exists_eq_left, exists_eq_left', exists_eq, exists_eq', exists_const, exists_and_left, true_and, and_true, true_implies, forall_const, Bool.false_eq_true, Bool.true_eq_false, false_implies, implies_true, decide_eq_true_eq, decide_eq_false_iff_not, Nat.reduceSub, Nat.reduceAdd, id_eq, List.length_cons, List.length_nil, List.length_append, reduceCtorEq, and_self, ite_true, ite_false, if_true, if_false, Bool.not_true, Bool.not_false, Bool.not_eq_true', Bool.not_eq_false', outP1, outP2, outP3, noOwn, wipeS, restS, mkSeq, false_and, and_false, eq_self_iff_true, not_true_eq_false, not_false_eq_true, decide_true, decide_false]
  refine ⟨as, bs, rfl, ha, hb, ?_⟩
  (try simp only [wpSs, wpS, wpE, wpA, wpC, wpT, wpTss, wpI, wpAnds, wpOrs, bindT, getS, setS, setsS, outS, slD, Pr.w, Pr.aw, pAdd, pInt, pMul, pCmp, pEq, pIsN, pLt, pLen, pAbs, pNeg, pInt1, pBool, pIsi, pIx, pSlc, pTupD, pLstD, pTupOf, pLstOf, pSum, pBs, pTwo, isNon, isIns, isTp, truth, items, ent, List.replicate, List.cons_append, List.nil_append, Rv.d, bodyP, at0, at1, at2, at3, at4, atm1, ixn1, ixn2, ixn3, set51, set52, set53, get51, D.int.injEq, D.bl.injEq, D.tup.injEq, D.lst.injEq, D.str.injEq, Sl.own.injEq, Sl.val.injEq, Rv.v.injEq, Rv.fr.injEq, Option.some.injEq, List.cons.injEq, exists_eq_left, exists_eq_left', exists_eq, exists_eq', exists_const, exists_and_left, true_and, and_true, true_implies, forall_const, Bool.false_eq_true, Bool.true_eq_false, false_implies, implies_true, decide_eq_true_eq, decide_eq_false_iff_not, Nat.reduceSub, Nat.reduceAdd, id_eq, List.length_cons, List.length_nil, List.length_append, reduceCtorEq, and_self, ite_true, ite_false, if_true, if_false, Bool.not_true, Bool.not_false, Bool.not_eq_true', Bool.not_eq_false', outP1, outP2, outP3, noOwn, wipeS, restS, mkSeq, false_and, and_false, eq_self_iff_true, not_true_eq_false, not_false_eq_true, decide_true, decide_false])
  (try subst hk_law_pair_right_b10); unfold law_pair_right.b10; simp only [G_pair.s8, wpSs, wpS, wpE, wpA, wpC, wpT, wpTss, wpI, wpAnds, wpOrs, bindT, getS, setS, setsS, outS, slD, Pr.w, Pr.aw, pAdd, pInt, pMul, pCmp, pEq, pIsN, pLt, pLen, pAbs, pNeg, pInt1, pBool, pIsi, pIx, pSlc, pTupD, pLstD, pTupOf, pLstOf, pSum, pBs, pTwo, isNon, isIns, isTp, truth, items, ent, List.replicate, List.cons_append, List.nil_append, Rv.d, bodyP, at0, at1, at2, at3, at4, atm1, ixn1, ixn2, ixn3, set51, set52, set53, get51, D.int.injEq, D.bl.injEq, D.tup.injEq, D.lst.injEq, D.str.injEq, Sl.own.injEq, Sl.val.injEq, Rv.v.injEq, Rv.fr.injEq, Option.some.injEq, List.cons.injEq, exists_eq_left, exists_eq_left', exists_eq, exists_eq', exists_const, exists_and_left, true_and, and_true, true_implies, forall_const, Bool.false_eq_true, Bool.true_eq_false, false_implies, implies_true, decide_eq_true_eq, decide_eq_false_iff_not, Nat.reduceSub, Nat.reduceAdd, id_eq, List.length_cons, List.length_nil, List.length_append, reduceCtorEq, and_self, ite_true, ite_false, if_true, if_false, Bool.not_true, Bool.not_false, Bool.not_eq_true', Bool.not_eq_false', outP1, outP2, outP3, noOwn, wipeS, restS, mkSeq, false_and, and_false, eq_self_iff_true, not_true_eq_false, not_false_eq_true, decide_true, decide_false]
  refine ⟨_, rfl, rfl, ?_⟩
  rw [show ∀ i, isInt (.int i) = true from fun _ => rfl]
  (try simp only [wpSs, wpS, wpE, wpA, wpC, wpT, wpTss, wpI, wpAnds, wpOrs, bindT, getS, setS, setsS, outS, slD, Pr.w, Pr.aw, pAdd, pInt, pMul, pCmp, pEq, pIsN, pLt, pLen, pAbs, pNeg, pInt1, pBool, pIsi, pIx, pSlc, pTupD, pLstD, pTupOf, pLstOf, pSum, pBs, pTwo, isNon, isIns, isTp, truth, items, ent, List.replicate, List.cons_append, List.nil_append, Rv.d, bodyP, at0, at1, at2, at3, at4, atm1, ixn1, ixn2, ixn3, set51, set52, set53, get51, D.int.injEq, D.bl.injEq, D.tup.injEq, D.lst.injEq, D.str.injEq, Sl.own.injEq, Sl.val.injEq, Rv.v.injEq, Rv.fr.injEq, Option.some.injEq, List.cons.injEq, exists_eq_left, exists_eq_left', exists_eq, exists_eq', exists_const, exists_and_left, true_and, and_true, true_implies, forall_const, Bool.false_eq_true, Bool.true_eq_false, false_implies, implies_true, decide_eq_true_eq, decide_eq_false_iff_not, Nat.reduceSub, Nat.reduceAdd, id_eq, List.length_cons, List.length_nil, List.length_append, reduceCtorEq, and_self, ite_true, ite_false, if_true, if_false, Bool.not_true, Bool.not_false, Bool.not_eq_true', Bool.not_eq_false', outP1, outP2, outP3, noOwn, wipeS, restS, mkSeq, false_and, and_false, eq_self_iff_true, not_true_eq_false, not_false_eq_true, decide_true, decide_false])
  refine comp_rng (fun k => .int (as.getD k 0 * bs.getD k 0)) as.length (by omega) (fun k hk R hR => ?_) ?_
  · (try simp only [wpSs, wpS, wpE, wpA, wpC, wpT, wpTss, wpI, wpAnds, wpOrs, bindT, getS, setS, setsS, outS, slD, Pr.w, Pr.aw, pAdd, pInt, pMul, pCmp, pEq, pIsN, pLt, pLen, pAbs, pNeg, pInt1, pBool, pIsi, pIx, pSlc, pTupD, pLstD, pTupOf, pLstOf, pSum, pBs, pTwo, isNon, isIns, isTp, truth, items, ent, List.replicate, List.cons_append, List.nil_append, Rv.d, bodyP, at0, at1, at2, at3, at4, atm1, ixn1, ixn2, ixn3, set51, set52, set53, get51, D.int.injEq, D.bl.injEq, D.tup.injEq, D.lst.injEq, D.str.injEq, Sl.own.injEq, Sl.val.injEq, Rv.v.injEq, Rv.fr.injEq, Option.some.injEq, List.cons.injEq, exists_eq_left, exists_eq_left', exists_eq, exists_eq', exists_const, exists_and_left, true_and, and_true, true_implies, forall_const, Bool.false_eq_true, Bool.true_eq_false, false_implies, implies_true, decide_eq_true_eq, decide_eq_false_iff_not, Nat.reduceSub, Nat.reduceAdd, id_eq, List.length_cons, List.length_nil, List.length_append, reduceCtorEq, and_self, ite_true, ite_false, if_true, if_false, Bool.not_true, Bool.not_false, Bool.not_eq_true', Bool.not_eq_false', outP1, outP2, outP3, noOwn, wipeS, restS, mkSeq, false_and, and_false, eq_self_iff_true, not_true_eq_false, not_false_eq_true, decide_true, decide_false])
    refine ⟨_, ea k hk, _, eb k hk, ?_⟩
    (try simp only [wpSs, wpS, wpE, wpA, wpC, wpT, wpTss, wpI, wpAnds, wpOrs, bindT, getS, setS, setsS, outS, slD, Pr.w, Pr.aw, pAdd, pInt, pMul, pCmp, pEq, pIsN, pLt, pLen, pAbs, pNeg, pInt1, pBool, pIsi, pIx, pSlc, pTupD, pLstD, pTupOf, pLstOf, pSum, pBs, pTwo, isNon, isIns, isTp, truth, items, ent, List.replicate, List.cons_append, List.nil_append, Rv.d, bodyP, at0, at1, at2, at3, at4, atm1, ixn1, ixn2, ixn3, set51, set52, set53, get51, D.int.injEq, D.bl.injEq, D.tup.injEq, D.lst.injEq, D.str.injEq, Sl.own.injEq, Sl.val.injEq, Rv.v.injEq, Rv.fr.injEq, Option.some.injEq, List.cons.injEq, exists_eq_left, exists_eq_left', exists_eq, exists_eq', exists_const, exists_and_left, true_and, and_true, true_implies, forall_const, Bool.false_eq_true, Bool.true_eq_false, false_implies, implies_true, decide_eq_true_eq, decide_eq_false_iff_not, Nat.reduceSub, Nat.reduceAdd, id_eq, List.length_cons, List.length_nil, List.length_append, reduceCtorEq, and_self, ite_true, ite_false, if_true, if_false, Bool.not_true, Bool.not_false, Bool.not_eq_true', Bool.not_eq_false', outP1, outP2, outP3, noOwn, wipeS, restS, mkSeq, false_and, and_false, eq_self_iff_true, not_true_eq_false, not_false_eq_true, decide_true, decide_false])
    exact ⟨(ha.2 _ (at_get hk)).mulOk (hb.2 _ (at_get (by omega))) (by omega), hR⟩
  (try simp only [wpSs, wpS, wpE, wpA, wpC, wpT, wpTss, wpI, wpAnds, wpOrs, bindT, getS, setS, setsS, outS, slD, Pr.w, Pr.aw, pAdd, pInt, pMul, pCmp, pEq, pIsN, pLt, pLen, pAbs, pNeg, pInt1, pBool, pIsi, pIx, pSlc, pTupD, pLstD, pTupOf, pLstOf, pSum, pBs, pTwo, isNon, isIns, isTp, truth, items, ent, List.replicate, List.cons_append, List.nil_append, Rv.d, bodyP, at0, at1, at2, at3, at4, atm1, ixn1, ixn2, ixn3, set51, set52, set53, get51, D.int.injEq, D.bl.injEq, D.tup.injEq, D.lst.injEq, D.str.injEq, Sl.own.injEq, Sl.val.injEq, Rv.v.injEq, Rv.fr.injEq, Option.some.injEq, List.cons.injEq, exists_eq_left, exists_eq_left', exists_eq, exists_eq', exists_const, exists_and_left, true_and, and_true, true_implies, forall_const, Bool.false_eq_true, Bool.true_eq_false, false_implies, implies_true, decide_eq_true_eq, decide_eq_false_iff_not, Nat.reduceSub, Nat.reduceAdd, id_eq, List.length_cons, List.length_nil, List.length_append, reduceCtorEq, and_self, ite_true, ite_false, if_true, if_false, Bool.not_true, Bool.not_false, Bool.not_eq_true', Bool.not_eq_false', outP1, outP2, outP3, noOwn, wipeS, restS, mkSeq, false_and, and_false, eq_self_iff_true, not_true_eq_false, not_false_eq_true, decide_true, decide_false])
  refine ⟨(List.range as.length).map fun k => as.getD k 0 * bs.getD k 0, rng_ls, ?_⟩
  (try simp only [deq_int, plain_int, wpSs, wpS, wpE, wpA, wpC, wpT, wpTss, wpI, wpAnds, wpOrs, bindT, getS, setS, setsS, outS, slD, Pr.w, Pr.aw, pAdd, pInt, pMul, pCmp, pEq, pIsN, pLt, pLen, pAbs, pNeg, pInt1, pBool, pIsi, pIx, pSlc, pTupD, pLstD, pTupOf, pLstOf, pSum, pBs, pTwo, isNon, isIns, isTp, truth, items, ent, List.replicate, List.cons_append, List.nil_append, Rv.d, bodyP, at0, at1, at2, at3, at4, atm1, ixn1, ixn2, ixn3, set51, set52, set53, get51, D.int.injEq, D.bl.injEq, D.tup.injEq, D.lst.injEq, D.str.injEq, Sl.own.injEq, Sl.val.injEq, Rv.v.injEq, Rv.fr.injEq, Option.some.injEq, List.cons.injEq, exists_eq_left, exists_eq_left', exists_eq, exists_eq', exists_const, exists_and_left, true_and, and_true, true_implies, forall_const, Bool.false_eq_true, Bool.true_eq_false, false_implies, implies_true, decide_eq_true_eq, decide_eq_false_iff_not, Nat.reduceSub, Nat.reduceAdd, id_eq, List.length_cons, List.length_nil, List.length_append, reduceCtorEq, and_self, ite_true, ite_false, if_true, if_false, Bool.not_true, Bool.not_false, Bool.not_eq_true', Bool.not_eq_false', outP1, outP2, outP3, noOwn, wipeS, restS, mkSeq, false_and, and_false, eq_self_iff_true, not_true_eq_false, not_false_eq_true, decide_true, decide_false])
  rw [zw_range rfl hab.symm, decide_eq_true rfl]
  exact hq
def G_al : Gam := [("total", 1, sp_total), ("_law_is_int", 1, sp_whole), ("_law_same_row", 2, sp_same), ("scaled", 2, sp_scaled), ("support", 1, sp_support)]
theorem G_al.s0 : gam G_al 0 = sp_total := rfl
theorem G_al.s1 : gam G_al 1 = sp_whole := rfl
theorem G_al.s2 : gam G_al 2 = sp_same := rfl
theorem G_al.s3 : gam G_al 3 = sp_scaled := rfl
theorem G_al.s4 : gam G_al 4 = sp_support := rfl
def sp_alone : DSp := fun ss Q _ => ∃ (as : List Int) (f : Int), ss = [.val (rw' as), .val (.int f)] ∧ Ok as ∧ Bt 200 f ∧ Q (.v (.bl true)) [.un, .un]
def rgP (as : List Int) : D → Bool
  | .int i => decide (as.getD i.toNat 0 ≠ 0)
  | _ => false
theorem rg_supp (as : List Int) : ((rngD 0 as.length).filter (rgP as)).map id = (supp as).map .int := by
  have e : rngD 0 as.length = (List.range as.length).map fun (k : Nat) => D.int (k : Int) := by
    unfold rngD
    refine List.map_congr_left fun k _ => ?_
    rw [Int.zero_add]
  rw [e, List.filter_map, List.map_id]
  unfold supp
  rw [List.map_map]
  have : (rgP as ∘ fun (k : Nat) => D.int (k : Int)) = fun k => decide (as.getD k 0 ≠ 0) := by
    funext k
    show decide (as.getD ((k : Int).toNat) 0 ≠ 0) = _
    rw [show ((k : Int).toNat) = k by omega]
  rw [this]
  rfl
theorem w_alone : ∀ ss Q E, ss.length = 2 → sp_alone ss Q E → wpSs G_al law_alone_right.b0 (ent ss 3) (bodyP ss Q E) := by
  rintro ss Q E - ⟨as, f, rfl, ha, hf, hq⟩
  have hl := ha.1
  have ea : ∀ k, k < as.length → atI (as.map D.int) (0 + (k : Int)) = some (.int (as.getD k 0)) := fun k hk => at_row hk
  (try subst hk_law_alone_right_b0); unfold law_alone_right.b0; obtain ⟨k_law_alone_right_b1, hk_law_alone_right_b1⟩ : ∃ k, k = law_alone_right.b1 := ⟨_, rfl⟩; rw [← hk_law_alone_right_b1]; simp only [rw', wpSs, wpS, wpE, wpA, wpC, wpT, wpTss, wpI, wpAnds, wpOrs, bindT, getS, setS, setsS, outS, slD, Pr.w, Pr.aw, pAdd, pInt, pMul, pCmp, pEq, pIsN, pLt, pLen, pAbs, pNeg, pInt1, pBool, pIsi, pIx, pSlc, pTupD, pLstD, pTupOf, pLstOf, pSum, pBs, pTwo, isNon, isIns, isTp, truth, items, ent, List.replicate, List.cons_append, List.nil_append, Rv.d, bodyP, at0, at1, at2, at3, at4, atm1, ixn1, ixn2, ixn3, set51, set52, set53, get51, D.int.injEq, D.bl.injEq, D.tup.injEq, D.lst.injEq, D.str.injEq, Sl.own.injEq, Sl.val.injEq, Rv.v.injEq, Rv.fr.injEq, Option.some.injEq, List.cons.injEq, exists_eq_left, exists_eq_left', exists_eq, exists_eq', exists_const, exists_and_left, true_and, and_true, true_implies, forall_const, Bool.false_eq_true, Bool.true_eq_false, false_implies, implies_true, decide_eq_true_eq, decide_eq_false_iff_not, Nat.reduceSub, Nat.reduceAdd, id_eq, List.length_cons, List.length_nil, List.length_append, reduceCtorEq, and_self, ite_true, ite_false, if_true, if_false, Bool.not_true, Bool.not_false, Bool.not_eq_true', Bool.not_eq_false', outP1, outP2, outP3, noOwn, wipeS, restS, mkSeq, false_and, and_false, eq_self_iff_true, not_true_eq_false, not_false_eq_true, decide_true, decide_false]
  refine ⟨by rw [List.length_map]; exact rgb (by omega), ?_⟩
  rw [show (((as.map D.int).length : Int) - 0).toNat = as.length by rw [List.length_map]; omega]
  (try subst hk_law_alone_right_b1); unfold law_alone_right.b1; obtain ⟨k_law_alone_right_b2, hk_law_alone_right_b2⟩ : ∃ k, k = law_alone_right.b2 := ⟨_, rfl⟩; rw [← hk_law_alone_right_b2]; simp only [G_al.s0, wpSs, wpS, wpE, wpA, wpC, wpT, wpTss, wpI, wpAnds, wpOrs, bindT, getS, setS, setsS, outS, slD, Pr.w, Pr.aw, pAdd, pInt, pMul, pCmp, pEq, pIsN, pLt, pLen, pAbs, pNeg, pInt1, pBool, pIsi, pIx, pSlc, pTupD, pLstD, pTupOf, pLstOf, pSum, pBs, pTwo, isNon, isIns, isTp, truth, items, ent, List.replicate, List.cons_append, List.nil_append, Rv.d, bodyP, at0, at1, at2, at3, at4, atm1, ixn1, ixn2, ixn3, set51, set52, set53, get51, D.int.injEq, D.bl.injEq, D.tup.injEq, D.lst.injEq, D.str.injEq, Sl.own.injEq, Sl.val.injEq, Rv.v.injEq, Rv.fr.injEq, Option.some.injEq, List.cons.injEq, exists_eq_left, exists_eq_left', exists_eq, exists_eq', exists_const, exists_and_left, true_and, and_true, true_implies, forall_const, Bool.false_eq_true, Bool.true_eq_false, false_implies, implies_true, decide_eq_true_eq, decide_eq_false_iff_not, Nat.reduceSub, Nat.reduceAdd, id_eq, List.length_cons, List.length_nil, List.length_append, reduceCtorEq, and_self, ite_true, ite_false, if_true, if_false, Bool.not_true, Bool.not_false, Bool.not_eq_true', Bool.not_eq_false', outP1, outP2, outP3, noOwn, wipeS, restS, mkSeq, false_and, and_false, eq_self_iff_true, not_true_eq_false, not_false_eq_true, decide_true, decide_false]
  refine ⟨as, rfl, ?_⟩
  (try simp only [wpSs, wpS, wpE, wpA, wpC, wpT, wpTss, wpI, wpAnds, wpOrs, bindT, getS, setS, setsS, outS, slD, Pr.w, Pr.aw, pAdd, pInt, pMul, pCmp, pEq, pIsN, pLt, pLen, pAbs, pNeg, pInt1, pBool, pIsi, pIx, pSlc, pTupD, pLstD, pTupOf, pLstOf, pSum, pBs, pTwo, isNon, isIns, isTp, truth, items, ent, List.replicate, List.cons_append, List.nil_append, Rv.d, bodyP, at0, at1, at2, at3, at4, atm1, ixn1, ixn2, ixn3, set51, set52, set53, get51, D.int.injEq, D.bl.injEq, D.tup.injEq, D.lst.injEq, D.str.injEq, Sl.own.injEq, Sl.val.injEq, Rv.v.injEq, Rv.fr.injEq, Option.some.injEq, List.cons.injEq, exists_eq_left, exists_eq_left', exists_eq, exists_eq', exists_const, exists_and_left, true_and, and_true, true_implies, forall_const, Bool.false_eq_true, Bool.true_eq_false, false_implies, implies_true, decide_eq_true_eq, decide_eq_false_iff_not, Nat.reduceSub, Nat.reduceAdd, id_eq, List.length_cons, List.length_nil, List.length_append, reduceCtorEq, and_self, ite_true, ite_false, if_true, if_false, Bool.not_true, Bool.not_false, Bool.not_eq_true', Bool.not_eq_false', outP1, outP2, outP3, noOwn, wipeS, restS, mkSeq, false_and, and_false, eq_self_iff_true, not_true_eq_false, not_false_eq_true, decide_true, decide_false])
  (try subst hk_law_alone_right_b2); unfold law_alone_right.b2; obtain ⟨k_law_alone_right_b2t0, hk_law_alone_right_b2t0⟩ : ∃ k, k = law_alone_right.b2t0 := ⟨_, rfl⟩; rw [← hk_law_alone_right_b2t0]; obtain ⟨k_law_alone_right_b3, hk_law_alone_right_b3⟩ : ∃ k, k = law_alone_right.b3 := ⟨_, rfl⟩; rw [← hk_law_alone_right_b3]; simp only [G_al.s1, wpSs, wpS, wpE, wpA, wpC, wpT, wpTss, wpI, wpAnds, wpOrs, bindT, getS, setS, setsS, outS, slD, Pr.w, Pr.aw, pAdd, pInt, pMul, pCmp, pEq, pIsN, pLt, pLen, pAbs, pNeg, pInt1, pBool, pIsi, pIx, pSlc, pTupD, pLstD, pTupOf, pLstOf, pSum, pBs, pTwo, isNon, isIns, isTp, truth, items, ent, List.replicate, List.cons_append, List.nil_append, Rv.d, bodyP, at0, at1, at2, at3, at4, atm1, ixn1, ixn2, ixn3, set51, set52, set53, get51, D.int.injEq, D.bl.injEq, D.tup.injEq, D.lst.injEq, D.str.injEq, Sl.own.injEq, Sl.val.injEq, Rv.v.injEq, Rv.fr.injEq, Option.some.injEq, List.cons.injEq, exists_eq_left, exists_eq_left', exists_eq, exists_eq', exists_const, exists_and_left, true_and, and_true, true_implies, forall_const, Bool.false_eq_true, Bool.true_eq_false, false_implies, implies_true, decide_eq_true_eq, decide_eq_false_iff_not, Nat.reduceSub, Nat.reduceAdd, id_eq, List.length_cons, List.length_nil, List.length_append, reduceCtorEq, and_self, ite_true, ite_false, if_true, if_false, Bool.not_true, Bool.not_false, Bool.not_eq_true', Bool.not_eq_false', outP1, outP2, outP3, noOwn, wipeS, restS, mkSeq, false_and, and_false, eq_self_iff_true, not_true_eq_false, not_false_eq_true, decide_true, decide_false]
  refine ⟨_, rfl, rfl, ?_⟩
  rw [show ∀ i, isInt (.int i) = true from fun _ => rfl]
  (try simp only [wpSs, wpS, wpE, wpA, wpC, wpT, wpTss, wpI, wpAnds, wpOrs, bindT, getS, setS, setsS, outS, slD, Pr.w, Pr.aw, pAdd, pInt, pMul, pCmp, pEq, pIsN, pLt, pLen, pAbs, pNeg, pInt1, pBool, pIsi, pIx, pSlc, pTupD, pLstD, pTupOf, pLstOf, pSum, pBs, pTwo, isNon, isIns, isTp, truth, items, ent, List.replicate, List.cons_append, List.nil_append, Rv.d, bodyP, at0, at1, at2, at3, at4, atm1, ixn1, ixn2, ixn3, set51, set52, set53, get51, D.int.injEq, D.bl.injEq, D.tup.injEq, D.lst.injEq, D.str.injEq, Sl.own.injEq, Sl.val.injEq, Rv.v.injEq, Rv.fr.injEq, Option.some.injEq, List.cons.injEq, exists_eq_left, exists_eq_left', exists_eq, exists_eq', exists_const, exists_and_left, true_and, and_true, true_implies, forall_const, Bool.false_eq_true, Bool.true_eq_false, false_implies, implies_true, decide_eq_true_eq, decide_eq_false_iff_not, Nat.reduceSub, Nat.reduceAdd, id_eq, List.length_cons, List.length_nil, List.length_append, reduceCtorEq, and_self, ite_true, ite_false, if_true, if_false, Bool.not_true, Bool.not_false, Bool.not_eq_true', Bool.not_eq_false', outP1, outP2, outP3, noOwn, wipeS, restS, mkSeq, false_and, and_false, eq_self_iff_true, not_true_eq_false, not_false_eq_true, decide_true, decide_false])
  refine comp_rng (fun k => .int (as.getD k 0)) as.length (by omega) (fun k hk R hR => ?_) ?_
  · (try simp only [wpSs, wpS, wpE, wpA, wpC, wpT, wpTss, wpI, wpAnds, wpOrs, bindT, getS, setS, setsS, outS, slD, Pr.w, Pr.aw, pAdd, pInt, pMul, pCmp, pEq, pIsN, pLt, pLen, pAbs, pNeg, pInt1, pBool, pIsi, pIx, pSlc, pTupD, pLstD, pTupOf, pLstOf, pSum, pBs, pTwo, isNon, isIns, isTp, truth, items, ent, List.replicate, List.cons_append, List.nil_append, Rv.d, bodyP, at0, at1, at2, at3, at4, atm1, ixn1, ixn2, ixn3, set51, set52, set53, get51, D.int.injEq, D.bl.injEq, D.tup.injEq, D.lst.injEq, D.str.injEq, Sl.own.injEq, Sl.val.injEq, Rv.v.injEq, Rv.fr.injEq, Option.some.injEq, List.cons.injEq, exists_eq_left, exists_eq_left', exists_eq, exists_eq', exists_const, exists_and_left, true_and, and_true, true_implies, forall_const, Bool.false_eq_true, Bool.true_eq_false, false_implies, implies_true, decide_eq_true_eq, decide_eq_false_iff_not, Nat.reduceSub, Nat.reduceAdd, id_eq, List.length_cons, List.length_nil, List.length_append, reduceCtorEq, and_self, ite_true, ite_false, if_true, if_false, Bool.not_true, Bool.not_false, Bool.not_eq_true', Bool.not_eq_false', outP1, outP2, outP3, noOwn, wipeS, restS, mkSeq, false_and, and_false, eq_self_iff_true, not_true_eq_false, not_false_eq_true, decide_true, decide_false])
    exact ⟨_, ea k hk, hR⟩
  (try simp only [wpSs, wpS, wpE, wpA, wpC, wpT, wpTss, wpI, wpAnds, wpOrs, bindT, getS, setS, setsS, outS, slD, Pr.w, Pr.aw, pAdd, pInt, pMul, pCmp, pEq, pIsN, pLt, pLen, pAbs, pNeg, pInt1, pBool, pIsi, pIx, pSlc, pTupD, pLstD, pTupOf, pLstOf, pSum, pBs, pTwo, isNon, isIns, isTp, truth, items, ent, List.replicate, List.cons_append, List.nil_append, Rv.d, bodyP, at0, at1, at2, at3, at4, atm1, ixn1, ixn2, ixn3, set51, set52, set53, get51, D.int.injEq, D.bl.injEq, D.tup.injEq, D.lst.injEq, D.str.injEq, Sl.own.injEq, Sl.val.injEq, Rv.v.injEq, Rv.fr.injEq, Option.some.injEq, List.cons.injEq, exists_eq_left, exists_eq_left', exists_eq, exists_eq', exists_const, exists_and_left, true_and, and_true, true_implies, forall_const, Bool.false_eq_true, Bool.true_eq_false, false_implies, implies_true, decide_eq_true_eq, decide_eq_false_iff_not, Nat.reduceSub, Nat.reduceAdd, id_eq, List.length_cons, List.length_nil, List.length_append, reduceCtorEq, and_self, ite_true, ite_false, if_true, if_false, Bool.not_true, Bool.not_false, Bool.not_eq_true', Bool.not_eq_false', outP1, outP2, outP3, noOwn, wipeS, restS, mkSeq, false_and, and_false, eq_self_iff_true, not_true_eq_false, not_false_eq_true, decide_true, decide_false])
  refine ⟨(List.range as.length).map fun k => as.getD k 0, rng_ls, ?_⟩
  rw [← self_range rfl]
  (try simp only [deq_int, plain_int, wpSs, wpS, wpE, wpA, wpC, wpT, wpTss, wpI, wpAnds, wpOrs, bindT, getS, setS, setsS, outS, slD, Pr.w, Pr.aw, pAdd, pInt, pMul, pCmp, pEq, pIsN, pLt, pLen, pAbs, pNeg, pInt1, pBool, pIsi, pIx, pSlc, pTupD, pLstD, pTupOf, pLstOf, pSum, pBs, pTwo, isNon, isIns, isTp, truth, items, ent, List.replicate, List.cons_append, List.nil_append, Rv.d, bodyP, at0, at1, at2, at3, at4, atm1, ixn1, ixn2, ixn3, set51, set52, set53, get51, D.int.injEq, D.bl.injEq, D.tup.injEq, D.lst.injEq, D.str.injEq, Sl.own.injEq, Sl.val.injEq, Rv.v.injEq, Rv.fr.injEq, Option.some.injEq, List.cons.injEq, exists_eq_left, exists_eq_left', exists_eq, exists_eq', exists_const, exists_and_left, true_and, and_true, true_implies, forall_const, Bool.false_eq_true, Bool.true_eq_false, false_implies, implies_true, decide_eq_true_eq, decide_eq_false_iff_not, Nat.reduceSub, Nat.reduceAdd, id_eq, List.length_cons, List.length_nil, List.length_append, reduceCtorEq, and_self, ite_true, ite_false, if_true, if_false, Bool.not_true, Bool.not_false, Bool.not_eq_true', Bool.not_eq_false', outP1, outP2, outP3, noOwn, wipeS, restS, mkSeq, false_and, and_false, eq_self_iff_true, not_true_eq_false, not_false_eq_true, decide_true, decide_false])
  (try subst hk_law_alone_right_b3); unfold law_alone_right.b3; obtain ⟨k_law_alone_right_b3t0, hk_law_alone_right_b3t0⟩ : ∃ k, k = law_alone_right.b3t0 := ⟨_, rfl⟩; rw [← hk_law_alone_right_b3t0]; obtain ⟨k_law_alone_right_b4, hk_law_alone_right_b4⟩ : ∃ k, k = law_alone_right.b4 := ⟨_, rfl⟩; rw [← hk_law_alone_right_b4]; simp only [G_al.s2, G_al.s3, wpSs, wpS, wpE, wpA, wpC, wpT, wpTss, wpI, wpAnds, wpOrs, bindT, getS, setS, setsS, outS, slD, Pr.w, Pr.aw, pAdd, pInt, pMul, pCmp, pEq, pIsN, pLt, pLen, pAbs, pNeg, pInt1, pBool, pIsi, pIx, pSlc, pTupD, pLstD, pTupOf, pLstOf, pSum, pBs, pTwo, isNon, isIns, isTp, truth, items, ent, List.replicate, List.cons_append, List.nil_append, Rv.d, bodyP, at0, at1, at2, at3, at4, atm1, ixn1, ixn2, ixn3, set51, set52, set53, get51, D.int.injEq, D.bl.injEq, D.tup.injEq, D.lst.injEq, D.str.injEq, Sl.own.injEq, Sl.val.injEq, Rv.v.injEq, Rv.fr.injEq, Option.some.injEq, List.cons.injEq, exists_eq_left, exists_eq_left', exists_eq, exists_eq', exists_const, exists_and_left, true_and, and_true, true_implies, forall_const, Bool.false_eq_true, Bool.true_eq_false, false_implies, implies_true, decide_eq_true_eq, decide_eq_false_iff_not, Nat.reduceSub, Nat.reduceAdd, id_eq, List.length_cons, List.length_nil, List.length_append, reduceCtorEq, and_self, ite_true, ite_false, if_true, if_false, Bool.not_true, Bool.not_false, Bool.not_eq_true', Bool.not_eq_false', outP1, outP2, outP3, noOwn, wipeS, restS, mkSeq, false_and, and_false, eq_self_iff_true, not_true_eq_false, not_false_eq_true, decide_true, decide_false]
  refine ⟨as, f, rfl, ha, hf, ?_⟩
  (try simp only [G_al.s2, wpSs, wpS, wpE, wpA, wpC, wpT, wpTss, wpI, wpAnds, wpOrs, bindT, getS, setS, setsS, outS, slD, Pr.w, Pr.aw, pAdd, pInt, pMul, pCmp, pEq, pIsN, pLt, pLen, pAbs, pNeg, pInt1, pBool, pIsi, pIx, pSlc, pTupD, pLstD, pTupOf, pLstOf, pSum, pBs, pTwo, isNon, isIns, isTp, truth, items, ent, List.replicate, List.cons_append, List.nil_append, Rv.d, bodyP, at0, at1, at2, at3, at4, atm1, ixn1, ixn2, ixn3, set51, set52, set53, get51, D.int.injEq, D.bl.injEq, D.tup.injEq, D.lst.injEq, D.str.injEq, Sl.own.injEq, Sl.val.injEq, Rv.v.injEq, Rv.fr.injEq, Option.some.injEq, List.cons.injEq, exists_eq_left, exists_eq_left', exists_eq, exists_eq', exists_const, exists_and_left, true_and, and_true, true_implies, forall_const, Bool.false_eq_true, Bool.true_eq_false, false_implies, implies_true, decide_eq_true_eq, decide_eq_false_iff_not, Nat.reduceSub, Nat.reduceAdd, id_eq, List.length_cons, List.length_nil, List.length_append, reduceCtorEq, and_self, ite_true, ite_false, if_true, if_false, Bool.not_true, Bool.not_false, Bool.not_eq_true', Bool.not_eq_false', outP1, outP2, outP3, noOwn, wipeS, restS, mkSeq, false_and, and_false, eq_self_iff_true, not_true_eq_false, not_false_eq_true, decide_true, decide_false])
  refine comp_rng (fun k => .int (as.getD k 0 * f)) as.length (by omega) (fun k hk R hR => ?_) ?_
  · (try simp only [wpSs, wpS, wpE, wpA, wpC, wpT, wpTss, wpI, wpAnds, wpOrs, bindT, getS, setS, setsS, outS, slD, Pr.w, Pr.aw, pAdd, pInt, pMul, pCmp, pEq, pIsN, pLt, pLen, pAbs, pNeg, pInt1, pBool, pIsi, pIx, pSlc, pTupD, pLstD, pTupOf, pLstOf, pSum, pBs, pTwo, isNon, isIns, isTp, truth, items, ent, List.replicate, List.cons_append, List.nil_append, Rv.d, bodyP, at0, at1, at2, at3, at4, atm1, ixn1, ixn2, ixn3, set51, set52, set53, get51, D.int.injEq, D.bl.injEq, D.tup.injEq, D.lst.injEq, D.str.injEq, Sl.own.injEq, Sl.val.injEq, Rv.v.injEq, Rv.fr.injEq, Option.some.injEq, List.cons.injEq, exists_eq_left, exists_eq_left', exists_eq, exists_eq', exists_const, exists_and_left, true_and, and_true, true_implies, forall_const, Bool.false_eq_true, Bool.true_eq_false, false_implies, implies_true, decide_eq_true_eq, decide_eq_false_iff_not, Nat.reduceSub, Nat.reduceAdd, id_eq, List.length_cons, List.length_nil, List.length_append, reduceCtorEq, and_self, ite_true, ite_false, if_true, if_false, Bool.not_true, Bool.not_false, Bool.not_eq_true', Bool.not_eq_false', outP1, outP2, outP3, noOwn, wipeS, restS, mkSeq, false_and, and_false, eq_self_iff_true, not_true_eq_false, not_false_eq_true, decide_true, decide_false])
    refine ⟨_, ea k hk, ?_⟩
    (try simp only [wpSs, wpS, wpE, wpA, wpC, wpT, wpTss, wpI, wpAnds, wpOrs, bindT, getS, setS, setsS, outS, slD, Pr.w, Pr.aw, pAdd, pInt, pMul, pCmp, pEq, pIsN, pLt, pLen, pAbs, pNeg, pInt1, pBool, pIsi, pIx, pSlc, pTupD, pLstD, pTupOf, pLstOf, pSum, pBs, pTwo, isNon, isIns, isTp, truth, items, ent, List.replicate, List.cons_append, List.nil_append, Rv.d, bodyP, at0, at1, at2, at3, at4, atm1, ixn1, ixn2, ixn3, set51, set52, set53, get51, D.int.injEq, D.bl.injEq, D.tup.injEq, D.lst.injEq, D.str.injEq, Sl.own.injEq, Sl.val.injEq, Rv.v.injEq, Rv.fr.injEq, Option.some.injEq, List.cons.injEq, exists_eq_left, exists_eq_left', exists_eq, exists_eq', exists_const, exists_and_left, true_and, and_true, true_implies, forall_const, Bool.false_eq_true, Bool.true_eq_false, false_implies, implies_true, decide_eq_true_eq, decide_eq_false_iff_not, Nat.reduceSub, Nat.reduceAdd, id_eq, List.length_cons, List.length_nil, List.length_append, reduceCtorEq, and_self, ite_true, ite_false, if_true, if_false, Bool.not_true, Bool.not_false, Bool.not_eq_true', Bool.not_eq_false', outP1, outP2, outP3, noOwn, wipeS, restS, mkSeq, false_and, and_false, eq_self_iff_true, not_true_eq_false, not_false_eq_true, decide_true, decide_false])
    exact ⟨(ha.2 _ (at_get hk)).mulOk hf (by omega), hR⟩
  (try simp only [G_al.s2, wpSs, wpS, wpE, wpA, wpC, wpT, wpTss, wpI, wpAnds, wpOrs, bindT, getS, setS, setsS, outS, slD, Pr.w, Pr.aw, pAdd, pInt, pMul, pCmp, pEq, pIsN, pLt, pLen, pAbs, pNeg, pInt1, pBool, pIsi, pIx, pSlc, pTupD, pLstD, pTupOf, pLstOf, pSum, pBs, pTwo, isNon, isIns, isTp, truth, items, ent, List.replicate, List.cons_append, List.nil_append, Rv.d, bodyP, at0, at1, at2, at3, at4, atm1, ixn1, ixn2, ixn3, set51, set52, set53, get51, D.int.injEq, D.bl.injEq, D.tup.injEq, D.lst.injEq, D.str.injEq, Sl.own.injEq, Sl.val.injEq, Rv.v.injEq, Rv.fr.injEq, Option.some.injEq, List.cons.injEq, exists_eq_left, exists_eq_left', exists_eq, exists_eq', exists_const, exists_and_left, true_and, and_true, true_implies, forall_const, Bool.false_eq_true, Bool.true_eq_false, false_implies, implies_true, decide_eq_true_eq, decide_eq_false_iff_not, Nat.reduceSub, Nat.reduceAdd, id_eq, List.length_cons, List.length_nil, List.length_append, reduceCtorEq, and_self, ite_true, ite_false, if_true, if_false, Bool.not_true, Bool.not_false, Bool.not_eq_true', Bool.not_eq_false', outP1, outP2, outP3, noOwn, wipeS, restS, mkSeq, false_and, and_false, eq_self_iff_true, not_true_eq_false, not_false_eq_true, decide_true, decide_false])
  refine ⟨as.map (· * f), _, rfl, .inr ?_, by rw [List.length_map]; omega, ?_⟩
  · rw [ls, rng_ls]
    congr 2
    conv => rhs; rw [self_range (as := as) rfl]
    rw [List.map_map]
    rfl
  (try simp only [wpSs, wpS, wpE, wpA, wpC, wpT, wpTss, wpI, wpAnds, wpOrs, bindT, getS, setS, setsS, outS, slD, Pr.w, Pr.aw, pAdd, pInt, pMul, pCmp, pEq, pIsN, pLt, pLen, pAbs, pNeg, pInt1, pBool, pIsi, pIx, pSlc, pTupD, pLstD, pTupOf, pLstOf, pSum, pBs, pTwo, isNon, isIns, isTp, truth, items, ent, List.replicate, List.cons_append, List.nil_append, Rv.d, bodyP, at0, at1, at2, at3, at4, atm1, ixn1, ixn2, ixn3, set51, set52, set53, get51, D.int.injEq, D.bl.injEq, D.tup.injEq, D.lst.injEq, D.str.injEq, Sl.own.injEq, Sl.val.injEq, Rv.v.injEq, Rv.fr.injEq, Option.some.injEq, List.cons.injEq, exists_eq_left, exists_eq_left', exists_eq, exists_eq', exists_const, exists_and_left, true_and, and_true, true_implies, forall_const, Bool.false_eq_true, Bool.true_eq_false, false_implies, implies_true, decide_eq_true_eq, decide_eq_false_iff_not, Nat.reduceSub, Nat.reduceAdd, id_eq, List.length_cons, List.length_nil, List.length_append, reduceCtorEq, and_self, ite_true, ite_false, if_true, if_false, Bool.not_true, Bool.not_false, Bool.not_eq_true', Bool.not_eq_false', outP1, outP2, outP3, noOwn, wipeS, restS, mkSeq, false_and, and_false, eq_self_iff_true, not_true_eq_false, not_false_eq_true, decide_true, decide_false])
  (try subst hk_law_alone_right_b4); unfold law_alone_right.b4; simp only [G_al.s2, G_al.s4, wpSs, wpS, wpE, wpA, wpC, wpT, wpTss, wpI, wpAnds, wpOrs, bindT, getS, setS, setsS, outS, slD, Pr.w, Pr.aw, pAdd, pInt, pMul, pCmp, pEq, pIsN, pLt, pLen, pAbs, pNeg, pInt1, pBool, pIsi, pIx, pSlc, pTupD, pLstD, pTupOf, pLstOf, pSum, pBs, pTwo, isNon, isIns, isTp, truth, items, ent, List.replicate, List.cons_append, List.nil_append, Rv.d, bodyP, at0, at1, at2, at3, at4, atm1, ixn1, ixn2, ixn3, set51, set52, set53, get51, D.int.injEq, D.bl.injEq, D.tup.injEq, D.lst.injEq, D.str.injEq, Sl.own.injEq, Sl.val.injEq, Rv.v.injEq, Rv.fr.injEq, Option.some.injEq, List.cons.injEq, exists_eq_left, exists_eq_left', exists_eq, exists_eq', exists_const, exists_and_left, true_and, and_true, true_implies, forall_const, Bool.false_eq_true, Bool.true_eq_false, false_implies, implies_true, decide_eq_true_eq, decide_eq_false_iff_not, Nat.reduceSub, Nat.reduceAdd, id_eq, List.length_cons, List.length_nil, List.length_append, reduceCtorEq, and_self, ite_true, ite_false, if_true, if_false, Bool.not_true, Bool.not_false, Bool.not_eq_true', Bool.not_eq_false', outP1, outP2, outP3, noOwn, wipeS, restS, mkSeq, false_and, and_false, eq_self_iff_true, not_true_eq_false, not_false_eq_true, decide_true, decide_false]
  refine ⟨as, rfl, ha, ?_⟩
  (try simp only [G_al.s2, wpSs, wpS, wpE, wpA, wpC, wpT, wpTss, wpI, wpAnds, wpOrs, bindT, getS, setS, setsS, outS, slD, Pr.w, Pr.aw, pAdd, pInt, pMul, pCmp, pEq, pIsN, pLt, pLen, pAbs, pNeg, pInt1, pBool, pIsi, pIx, pSlc, pTupD, pLstD, pTupOf, pLstOf, pSum, pBs, pTwo, isNon, isIns, isTp, truth, items, ent, List.replicate, List.cons_append, List.nil_append, Rv.d, bodyP, at0, at1, at2, at3, at4, atm1, ixn1, ixn2, ixn3, set51, set52, set53, get51, D.int.injEq, D.bl.injEq, D.tup.injEq, D.lst.injEq, D.str.injEq, Sl.own.injEq, Sl.val.injEq, Rv.v.injEq, Rv.fr.injEq, Option.some.injEq, List.cons.injEq, exists_eq_left, exists_eq_left', exists_eq, exists_eq', exists_const, exists_and_left, true_and, and_true, true_implies, forall_const, Bool.false_eq_true, Bool.true_eq_false, false_implies, implies_true, decide_eq_true_eq, decide_eq_false_iff_not, Nat.reduceSub, Nat.reduceAdd, id_eq, List.length_cons, List.length_nil, List.length_append, reduceCtorEq, and_self, ite_true, ite_false, if_true, if_false, Bool.not_true, Bool.not_false, Bool.not_eq_true', Bool.not_eq_false', outP1, outP2, outP3, noOwn, wipeS, restS, mkSeq, false_and, and_false, eq_self_iff_true, not_true_eq_false, not_false_eq_true, decide_true, decide_false])
  refine comp_all (rgP as) id _ [] ?_ (fun d hd R h1 h2 => ?_) ?_
  · unfold rngD
    rw [List.length_map, List.length_range]
    exact le_line (by simp; omega)
  · unfold rngD at hd
    obtain ⟨k, hk, rfl⟩ := List.mem_map.mp hd
    rw [List.mem_range] at hk
    have e : rgP as (.int (0 + (k : Int))) = decide (as.getD k 0 ≠ 0) := by
      show decide (as.getD (0 + (k : Int)).toNat 0 ≠ 0) = _
      rw [show (0 + (k : Int)).toNat = k by omega]
    rw [e] at h1 h2
    (try simp only [wpSs, wpS, wpE, wpA, wpC, wpT, wpTss, wpI, wpAnds, wpOrs, bindT, getS, setS, setsS, outS, slD, Pr.w, Pr.aw, pAdd, pInt, pMul, pCmp, pEq, pIsN, pLt, pLen, pAbs, pNeg, pInt1, pBool, pIsi, pIx, pSlc, pTupD, pLstD, pTupOf, pLstOf, pSum, pBs, pTwo, isNon, isIns, isTp, truth, items, ent, List.replicate, List.cons_append, List.nil_append, Rv.d, bodyP, at0, at1, at2, at3, at4, atm1, ixn1, ixn2, ixn3, set51, set52, set53, get51, D.int.injEq, D.bl.injEq, D.tup.injEq, D.lst.injEq, D.str.injEq, Sl.own.injEq, Sl.val.injEq, Rv.v.injEq, Rv.fr.injEq, Option.some.injEq, List.cons.injEq, exists_eq_left, exists_eq_left', exists_eq, exists_eq', exists_const, exists_and_left, true_and, and_true, true_implies, forall_const, Bool.false_eq_true, Bool.true_eq_false, false_implies, implies_true, decide_eq_true_eq, decide_eq_false_iff_not, Nat.reduceSub, Nat.reduceAdd, id_eq, List.length_cons, List.length_nil, List.length_append, reduceCtorEq, and_self, ite_true, ite_false, if_true, if_false, Bool.not_true, Bool.not_false, Bool.not_eq_true', Bool.not_eq_false', outP1, outP2, outP3, noOwn, wipeS, restS, mkSeq, false_and, and_false, eq_self_iff_true, not_true_eq_false, not_false_eq_true, decide_true, decide_false])
    refine ⟨_, ea k hk, ?_⟩
    (try simp only [deq_int, plain_int, wpSs, wpS, wpE, wpA, wpC, wpT, wpTss, wpI, wpAnds, wpOrs, bindT, getS, setS, setsS, outS, slD, Pr.w, Pr.aw, pAdd, pInt, pMul, pCmp, pEq, pIsN, pLt, pLen, pAbs, pNeg, pInt1, pBool, pIsi, pIx, pSlc, pTupD, pLstD, pTupOf, pLstOf, pSum, pBs, pTwo, isNon, isIns, isTp, truth, items, ent, List.replicate, List.cons_append, List.nil_append, Rv.d, bodyP, at0, at1, at2, at3, at4, atm1, ixn1, ixn2, ixn3, set51, set52, set53, get51, D.int.injEq, D.bl.injEq, D.tup.injEq, D.lst.injEq, D.str.injEq, Sl.own.injEq, Sl.val.injEq, Rv.v.injEq, Rv.fr.injEq, Option.some.injEq, List.cons.injEq, exists_eq_left, exists_eq_left', exists_eq, exists_eq', exists_const, exists_and_left, true_and, and_true, true_implies, forall_const, Bool.false_eq_true, Bool.true_eq_false, false_implies, implies_true, decide_eq_true_eq, decide_eq_false_iff_not, Nat.reduceSub, Nat.reduceAdd, id_eq, List.length_cons, List.length_nil, List.length_append, reduceCtorEq, and_self, ite_true, ite_false, if_true, if_false, Bool.not_true, Bool.not_false, Bool.not_eq_true', Bool.not_eq_false', outP1, outP2, outP3, noOwn, wipeS, restS, mkSeq, false_and, and_false, eq_self_iff_true, not_true_eq_false, not_false_eq_true, decide_true, decide_false])
    exact ⟨fun h => h1 (decide_eq_true h), fun h => ⟨fun z => absurd h z, fun _ => h2 (decide_eq_false fun z => z h)⟩⟩
  (try simp only [G_al.s2, wpSs, wpS, wpE, wpA, wpC, wpT, wpTss, wpI, wpAnds, wpOrs, bindT, getS, setS, setsS, outS, slD, Pr.w, Pr.aw, pAdd, pInt, pMul, pCmp, pEq, pIsN, pLt, pLen, pAbs, pNeg, pInt1, pBool, pIsi, pIx, pSlc, pTupD, pLstD, pTupOf, pLstOf, pSum, pBs, pTwo, isNon, isIns, isTp, truth, items, ent, List.replicate, List.cons_append, List.nil_append, Rv.d, bodyP, at0, at1, at2, at3, at4, atm1, ixn1, ixn2, ixn3, set51, set52, set53, get51, D.int.injEq, D.bl.injEq, D.tup.injEq, D.lst.injEq, D.str.injEq, Sl.own.injEq, Sl.val.injEq, Rv.v.injEq, Rv.fr.injEq, Option.some.injEq, List.cons.injEq, exists_eq_left, exists_eq_left', exists_eq, exists_eq', exists_const, exists_and_left, true_and, and_true, true_implies, forall_const, Bool.false_eq_true, Bool.true_eq_false, false_implies, implies_true, decide_eq_true_eq, decide_eq_false_iff_not, Nat.reduceSub, Nat.reduceAdd, id_eq, List.length_cons, List.length_nil, List.length_append, reduceCtorEq, and_self, ite_true, ite_false, if_true, if_false, Bool.not_true, Bool.not_false, Bool.not_eq_true', Bool.not_eq_false', outP1, outP2, outP3, noOwn, wipeS, restS, mkSeq, false_and, and_false, eq_self_iff_true, not_true_eq_false, not_false_eq_true, decide_true, decide_false])
  refine ⟨supp as, _, rfl, .inr ?_, ?_, ?_⟩
  · rw [ls, rg_supp]
  · unfold supp
    rw [List.length_map]
    have := List.length_filter_le (fun k => decide (as.getD k 0 ≠ 0)) (List.range as.length)
    rw [List.length_range] at this
    omega
  · (try simp only [wpSs, wpS, wpE, wpA, wpC, wpT, wpTss, wpI, wpAnds, wpOrs, bindT, getS, setS, setsS, outS, slD, Pr.w, Pr.aw, pAdd, pInt, pMul, pCmp, pEq, pIsN, pLt, pLen, pAbs, pNeg, pInt1, pBool, pIsi, pIx, pSlc, pTupD, pLstD, pTupOf, pLstOf, pSum, pBs, pTwo, isNon, isIns, isTp, truth, items, ent, List.replicate, List.cons_append, List.nil_append, Rv.d, bodyP, at0, at1, at2, at3, at4, atm1, ixn1, ixn2, ixn3, set51, set52, set53, get51, D.int.injEq, D.bl.injEq, D.tup.injEq, D.lst.injEq, D.str.injEq, Sl.own.injEq, Sl.val.injEq, Rv.v.injEq, Rv.fr.injEq, Option.some.injEq, List.cons.injEq, exists_eq_left, exists_eq_left', exists_eq, exists_eq', exists_const, exists_and_left, true_and, and_true, true_implies, forall_const, Bool.false_eq_true, Bool.true_eq_false, false_implies, implies_true, decide_eq_true_eq, decide_eq_false_iff_not, Nat.reduceSub, Nat.reduceAdd, id_eq, List.length_cons, List.length_nil, List.length_append, reduceCtorEq, and_self, ite_true, ite_false, if_true, if_false, Bool.not_true, Bool.not_false, Bool.not_eq_true', Bool.not_eq_false', outP1, outP2, outP3, noOwn, wipeS, restS, mkSeq, false_and, and_false, eq_self_iff_true, not_true_eq_false, not_false_eq_true, decide_true, decide_false])
    exact hq
end K02

set_option Elab.async false
set_option linter.all false
set_option maxRecDepth 100000
namespace K02
open PySem PySem.Spec L2 Pd
theorem cut_hi {xs : List D} {k : Nat} (h : k ≤ xs.length) : cutG xs none (some (k : Int)) = xs.take k := by
  unfold cutG
  rw [HT.sIx_none, HT.sIx_nat, Nat.min_eq_left h]
  simp
theorem cut_lo {xs : List D} {k : Nat} (h : k ≤ xs.length) : cutG xs (some (k : Int)) none = xs.drop k := by
  unfold cutG
  rw [HT.sIx_none, HT.sIx_nat, Nat.min_eq_left h]
  rw [List.take_of_length_le (by rw [List.length_drop]; omega)]
def upd1 (as : List Int) (k : Nat) : List Int := as.take k ++ [as.getD k 0 + 1] ++ as.drop (k + 1)
def OkB (m n : Nat) (ns : List Int) : Prop := ns.length = n ∧ ∀ x ∈ ns, Bt m x
theorem upd1_ok {m n k : Nat} {as : List Int} (h : OkB m n as) (hk : k < n) : OkB (m + 2) n (upd1 as k) := by
  have hl := h.1
  refine ⟨?_, fun x hx => ?_⟩
  · unfold upd1
    simp only [List.length_append, List.length_take, List.length_singleton, List.length_drop]
    omega
  · unfold upd1 at hx
    rcases List.mem_append.mp hx with z | z
    · rcases List.mem_append.mp z with z | z
      · exact (h.2 x (List.mem_of_mem_take z)).mono (by omega)
      · rw [List.mem_singleton.mp z]
        exact ((h.2 _ (at_get (by omega))).add (show Bt 1 1 by unfold Bt; decide)).mono (by omega)
    · exact (h.2 x (List.mem_of_mem_drop z)).mono (by omega)
def sp_changed : DSp := fun ss Q _ => ∃ (ds : List D) (m n : Nat) (as : List Int), ss = [.own ds, .val (rw' as)] ∧ dO ds ∧ OkB m n as ∧ n ≤ 40 ∧ ∀ ds' bs, dO ds' → OkB (m + 2) n bs → Q (.v (rw' bs)) [.own ds', .un]
theorem w_changed : ∀ ss Q E, ss.length = 2 → sp_changed ss Q E → wpSs G_num law_changed.b0 (ent ss 1) (bodyP ss Q E) := by
  rintro ss Q E - ⟨ds, m, n, as, rfl, hd, ha, hn, hq⟩
  have hl := ha.1
  (try subst hk_law_changed_b0); unfold law_changed.b0; obtain ⟨k_law_changed_b0t0, hk_law_changed_b0t0⟩ : ∃ k, k = law_changed.b0t0 := ⟨_, rfl⟩; rw [← hk_law_changed_b0t0]; obtain ⟨k_law_changed_b1, hk_law_changed_b1⟩ : ∃ k, k = law_changed.b1 := ⟨_, rfl⟩; rw [← hk_law_changed_b1]; simp only [rw', deq_int, plain_int, wpSs, wpS, wpE, wpA, wpC, wpT, wpTss, wpI, wpAnds, wpOrs, bindT, getS, setS, setsS, outS, slD, Pr.w, Pr.aw, pAdd, pInt, pMul, pCmp, pEq, pIsN, pLt, pLen, pAbs, pNeg, pInt1, pBool, pIsi, pIx, pSlc, pSl, pTupD, pLstD, pTupOf, pLstOf, pSum, pBs, pTwo, isNon, isIns, isTp, truth, items, ent, List.replicate, List.cons_append, List.nil_append, Rv.d, bodyP, at0, at1, at2, at3, at4, atm1, ixn1, ixn2, ixn3, set51, set52, set53, get51, D.int.injEq, D.bl.injEq, D.tup.injEq, D.lst.injEq, D.str.injEq, Sl.own.injEq, Sl.val.injEq, Rv.v.injEq, Rv.fr.injEq, Option.some.injEq, List.cons.injEq, exists_eq_left, exists_eq_left', exists_eq, exists_eq', exists_const, exists_and_left, true_and, and_true, true_implies, forall_const, Bool.false_eq_true, Bool.true_eq_false, false_implies, implies_true, decide_eq_true_eq, decide_eq_false_iff_not, Nat.reduceSub, Nat.reduceAdd, id_eq, List.length_cons, List.length_nil, List.length_append, reduceCtorEq, and_self, ite_true, ite_false, if_true, if_false, Bool.not_true, Bool.not_false, Bool.not_eq_true', Bool.not_eq_false', outP1, outP2, outP3, noOwn, wipeS, restS, mkSeq, false_and, and_false, eq_self_iff_true, not_true_eq_false, not_false_eq_true, decide_true, decide_false]
  refine ⟨fun h => ?_, fun h => ?_⟩
  · (try subst hk_law_changed_b0t0); unfold law_changed.b0t0; simp only [wpSs, wpS, wpE, wpA, wpC, wpT, wpTss, wpI, wpAnds, wpOrs, bindT, getS, setS, setsS, outS, slD, Pr.w, Pr.aw, pAdd, pInt, pMul, pCmp, pEq, pIsN, pLt, pLen, pAbs, pNeg, pInt1, pBool, pIsi, pIx, pSlc, pSl, pTupD, pLstD, pTupOf, pLstOf, pSum, pBs, pTwo, isNon, isIns, isTp, truth, items, ent, List.replicate, List.cons_append, List.nil_append, Rv.d, bodyP, at0, at1, at2, at3, at4, atm1, ixn1, ixn2, ixn3, set51, set52, set53, get51, D.int.injEq, D.bl.injEq, D.tup.injEq, D.lst.injEq, D.str.injEq, Sl.own.injEq, Sl.val.injEq, Rv.v.injEq, Rv.fr.injEq, Option.some.injEq, List.cons.injEq, exists_eq_left, exists_eq_left', exists_eq, exists_eq', exists_const, exists_and_left, true_and, and_true, true_implies, forall_const, Bool.false_eq_true, Bool.true_eq_false, false_implies, implies_true, decide_eq_true_eq, decide_eq_false_iff_not, Nat.reduceSub, Nat.reduceAdd, id_eq, List.length_cons, List.length_nil, List.length_append, reduceCtorEq, and_self, ite_true, ite_false, if_true, if_false, Bool.not_true, Bool.not_false, Bool.not_eq_true', Bool.not_eq_false', outP1, outP2, outP3, noOwn, wipeS, restS, mkSeq, false_and, and_false, eq_self_iff_true, not_true_eq_false, not_false_eq_true, decide_true, decide_false]
    exact hq ds as hd ⟨hl, fun x hx => (ha.2 x hx).mono (by omega)⟩
  · rw [List.length_map] at h
    (try subst hk_law_changed_b1); unfold law_changed.b1; obtain ⟨k_law_changed_b2, hk_law_changed_b2⟩ : ∃ k, k = law_changed.b2 := ⟨_, rfl⟩; rw [← hk_law_changed_b2]; simp only [G_num.s0, wpSs, wpS, wpE, wpA, wpC, wpT, wpTss, wpI, wpAnds, wpOrs, bindT, getS, setS, setsS, outS, slD, Pr.w, Pr.aw, pAdd, pInt, pMul, pCmp, pEq, pIsN, pLt, pLen, pAbs, pNeg, pInt1, pBool, pIsi, pIx, pSlc, pSl, pTupD, pLstD, pTupOf, pLstOf, pSum, pBs, pTwo, isNon, isIns, isTp, truth, items, ent, List.replicate, List.cons_append, List.nil_append, Rv.d, bodyP, at0, at1, at2, at3, at4, atm1, ixn1, ixn2, ixn3, set51, set52, set53, get51, D.int.injEq, D.bl.injEq, D.tup.injEq, D.lst.injEq, D.str.injEq, Sl.own.injEq, Sl.val.injEq, Rv.v.injEq, Rv.fr.injEq, Option.some.injEq, List.cons.injEq, exists_eq_left, exists_eq_left', exists_eq, exists_eq', exists_const, exists_and_left, true_and, and_true, true_implies, forall_const, Bool.false_eq_true, Bool.true_eq_false, false_implies, implies_true, decide_eq_true_eq, decide_eq_false_iff_not, Nat.reduceSub, Nat.reduceAdd, id_eq, List.length_cons, List.length_nil, List.length_append, reduceCtorEq, and_self, ite_true, ite_false, if_true, if_false, Bool.not_true, Bool.not_false, Bool.not_eq_true', Bool.not_eq_false', outP1, outP2, outP3, noOwn, wipeS, restS, mkSeq, false_and, and_false, eq_self_iff_true, not_true_eq_false, not_false_eq_true, decide_true, decide_false]
    refine ⟨ds, _, rfl, hd, by rw [List.length_map]; omega, by rw [List.length_map]; omega, fun d1 r h1 r0 r1 => ?_⟩
    rw [List.length_map] at r1
    obtain ⟨k, rfl⟩ : ∃ k : Nat, r = (k : Int) := ⟨r.toNat, by omega⟩
    have hk : k < as.length := by omega
    (try simp only [wpSs, wpS, wpE, wpA, wpC, wpT, wpTss, wpI, wpAnds, wpOrs, bindT, getS, setS, setsS, outS, slD, Pr.w, Pr.aw, pAdd, pInt, pMul, pCmp, pEq, pIsN, pLt, pLen, pAbs, pNeg, pInt1, pBool, pIsi, pIx, pSlc, pSl, pTupD, pLstD, pTupOf, pLstOf, pSum, pBs, pTwo, isNon, isIns, isTp, truth, items, ent, List.replicate, List.cons_append, List.nil_append, Rv.d, bodyP, at0, at1, at2, at3, at4, atm1, ixn1, ixn2, ixn3, set51, set52, set53, get51, D.int.injEq, D.bl.injEq, D.tup.injEq, D.lst.injEq, D.str.injEq, Sl.own.injEq, Sl.val.injEq, Rv.v.injEq, Rv.fr.injEq, Option.some.injEq, List.cons.injEq, exists_eq_left, exists_eq_left', exists_eq, exists_eq', exists_const, exists_and_left, true_and, and_true, true_implies, forall_const, Bool.false_eq_true, Bool.true_eq_false, false_implies, implies_true, decide_eq_true_eq, decide_eq_false_iff_not, Nat.reduceSub, Nat.reduceAdd, id_eq, List.length_cons, List.length_nil, List.length_append, reduceCtorEq, and_self, ite_true, ite_false, if_true, if_false, Bool.not_true, Bool.not_false, Bool.not_eq_true', Bool.not_eq_false', outP1, outP2, outP3, noOwn, wipeS, restS, mkSeq, false_and, and_false, eq_self_iff_true, not_true_eq_false, not_false_eq_true, decide_true, decide_false])
    (try subst hk_law_changed_b2); unfold law_changed.b2; simp only [wpSs, wpS, wpE, wpA, wpC, wpT, wpTss, wpI, wpAnds, wpOrs, bindT, getS, setS, setsS, outS, slD, Pr.w, Pr.aw, pAdd, pInt, pMul, pCmp, pEq, pIsN, pLt, pLen, pAbs, pNeg, pInt1, pBool, pIsi, pIx, pSlc, pSl, pTupD, pLstD, pTupOf, pLstOf, pSum, pBs, pTwo, isNon, isIns, isTp, truth, items, ent, List.replicate, List.cons_append, List.nil_append, Rv.d, bodyP, at0, at1, at2, at3, at4, atm1, ixn1, ixn2, ixn3, set51, set52, set53, get51, D.int.injEq, D.bl.injEq, D.tup.injEq, D.lst.injEq, D.str.injEq, Sl.own.injEq, Sl.val.injEq, Rv.v.injEq, Rv.fr.injEq, Option.some.injEq, List.cons.injEq, exists_eq_left, exists_eq_left', exists_eq, exists_eq', exists_const, exists_and_left, true_and, and_true, true_implies, forall_const, Bool.false_eq_true, Bool.true_eq_false, false_implies, implies_true, decide_eq_true_eq, decide_eq_false_iff_not, Nat.reduceSub, Nat.reduceAdd, id_eq, List.length_cons, List.length_nil, List.length_append, reduceCtorEq, and_self, ite_true, ite_false, if_true, if_false, Bool.not_true, Bool.not_false, Bool.not_eq_true', Bool.not_eq_false', outP1, outP2, outP3, noOwn, wipeS, restS, mkSeq, false_and, and_false, eq_self_iff_true, not_true_eq_false, not_false_eq_true, decide_true, decide_false]
    have e := at_row hk
    rw [Int.zero_add] at e
    rw [show ((k : Int) + 1) = ((k + 1 : Nat) : Int) by omega, cut_hi (by rw [List.length_map]; omega), cut_lo (by rw [List.length_map]; omega)]
    refine ⟨_, e, ?_⟩
    (try simp only [wpSs, wpS, wpE, wpA, wpC, wpT, wpTss, wpI, wpAnds, wpOrs, bindT, getS, setS, setsS, outS, slD, Pr.w, Pr.aw, pAdd, pInt, pMul, pCmp, pEq, pIsN, pLt, pLen, pAbs, pNeg, pInt1, pBool, pIsi, pIx, pSlc, pSl, pTupD, pLstD, pTupOf, pLstOf, pSum, pBs, pTwo, isNon, isIns, isTp, truth, items, ent, List.replicate, List.cons_append, List.nil_append, Rv.d, bodyP, at0, at1, at2, at3, at4, atm1, ixn1, ixn2, ixn3, set51, set52, set53, get51, D.int.injEq, D.bl.injEq, D.tup.injEq, D.lst.injEq, D.str.injEq, Sl.own.injEq, Sl.val.injEq, Rv.v.injEq, Rv.fr.injEq, Option.some.injEq, List.cons.injEq, exists_eq_left, exists_eq_left', exists_eq, exists_eq', exists_const, exists_and_left, true_and, and_true, true_implies, forall_const, Bool.false_eq_true, Bool.true_eq_false, false_implies, implies_true, decide_eq_true_eq, decide_eq_false_iff_not, Nat.reduceSub, Nat.reduceAdd, id_eq, List.length_cons, List.length_nil, List.length_append, reduceCtorEq, and_self, ite_true, ite_false, if_true, if_false, Bool.not_true, Bool.not_false, Bool.not_eq_true', Bool.not_eq_false', outP1, outP2, outP3, noOwn, wipeS, restS, mkSeq, false_and, and_false, eq_self_iff_true, not_true_eq_false, not_false_eq_true, decide_true, decide_false])
    refine ⟨by decide, ?_, ?_, ?_⟩
    · exact le_line (by simp only [List.length_take, List.length_map]; omega)
    · exact le_line (by simp only [List.length_append, List.length_take, List.length_map, List.length_cons, List.length_nil, List.length_drop]; omega)
    · have e2 : (as.map D.int).take k ++ [D.int (as.getD k 0 + 1)] ++ (as.map D.int).drop (k + 1) = (upd1 as k).map .int := by
        unfold upd1
        simp [List.map_take, List.map_drop]
      rw [e2]
      exact hq d1 _ h1 (upd1_ok ha (by omega))
theorem okV_tup {xs : List D} (h1 : xs.length ≤ 100) (h2 : ∀ x ∈ xs, isIns x = false) : okV (.tup xs) := ⟨rfl, fun ys e => by cases e; exact ⟨h1, h2⟩⟩
theorem ins_int (as : List Int) : ∀ x ∈ as.map D.int, isIns x = false := fun x hx => by obtain ⟨a, _, rfl⟩ := List.mem_map.mp hx; rfl
def sp_odd : DSp := fun ss Q _ => ∃ (ds : List D) (as : List Int), ss = [.own ds, .val (rw' as)] ∧ dO ds ∧ Ok as ∧ ∀ ds' xs, dO ds' → (∀ x ∈ xs, okV x) → Q (.v (.lst xs)) [.own ds', .un]
theorem w_odd : ∀ ss Q E, ss.length = 2 → sp_odd ss Q E → wpSs G_num law_odd.b0 (ent ss 4) (bodyP ss Q E) := by
  rintro ss Q E - ⟨ds, as, rfl, hd, ha, hq⟩
  have hl := ha.1
  (try subst hk_law_odd_b0); unfold law_odd.b0; obtain ⟨k_law_odd_b1, hk_law_odd_b1⟩ : ∃ k, k = law_odd.b1 := ⟨_, rfl⟩; rw [← hk_law_odd_b1]; simp only [rw', wpSs, wpS, wpE, wpA, wpC, wpT, wpTss, wpI, wpAnds, wpOrs, bindT, getS, setS, setsS, outS, slD, Pr.w, Pr.aw, pAdd, pInt, pMul, pCmp, pEq, pIsN, pLt, pLen, pAbs, pNeg, pInt1, pBool, pIsi, pIx, pSlc, pSl, pTupD, pLstD, pTupOf, pLstOf, pSum, pBs, pTwo, isNon, isIns, isTp, truth, items, ent, List.replicate, List.cons_append, List.nil_append, Rv.d, bodyP, at0, at1, at2, at3, at4, atm1, ixn1, ixn2, ixn3, set51, set52, set53, get51, D.int.injEq, D.bl.injEq, D.tup.injEq, D.lst.injEq, D.str.injEq, Sl.own.injEq, Sl.val.injEq, Rv.v.injEq, Rv.fr.injEq, Option.some.injEq, List.cons.injEq, exists_eq_left, exists_eq_left', exists_eq, exists_eq', exists_const, exists_and_left, true_and, and_true, true_implies, forall_const, Bool.false_eq_true, Bool.true_eq_false, false_implies, implies_true, decide_eq_true_eq, decide_eq_false_iff_not, Nat.reduceSub, Nat.reduceAdd, id_eq, List.length_cons, List.length_nil, List.length_append, reduceCtorEq, and_self, ite_true, ite_false, if_true, if_false, Bool.not_true, Bool.not_false, Bool.not_eq_true', Bool.not_eq_false', outP1, outP2, outP3, noOwn, wipeS, restS, mkSeq, false_and, and_false, eq_self_iff_true, not_true_eq_false, not_false_eq_true, decide_true, decide_false]
  have oT : ∀ {xs : List Int} {ys : List D}, ys = xs.map .int → xs.length ≤ 100 → okV (.tup ys) := fun {xs ys} e h => by
    subst e
    exact okV_tup (by rw [List.length_map]; exact h) (ins_int xs)
  (try subst hk_law_odd_b1); unfold law_odd.b1; obtain ⟨k_law_odd_b2, hk_law_odd_b2⟩ : ∃ k, k = law_odd.b2 := ⟨_, rfl⟩; rw [← hk_law_odd_b2]; simp only [wpSs, wpS, wpE, wpA, wpC, wpT, wpTss, wpI, wpAnds, wpOrs, bindT, getS, setS, setsS, outS, slD, Pr.w, Pr.aw, pAdd, pInt, pMul, pCmp, pEq, pIsN, pLt, pLen, pAbs, pNeg, pInt1, pBool, pIsi, pIx, pSlc, pSl, pTupD, pLstD, pTupOf, pLstOf, pSum, pBs, pTwo, isNon, isIns, isTp, truth, items, ent, List.replicate, List.cons_append, List.nil_append, Rv.d, bodyP, at0, at1, at2, at3, at4, atm1, ixn1, ixn2, ixn3, set51, set52, set53, get51, D.int.injEq, D.bl.injEq, D.tup.injEq, D.lst.injEq, D.str.injEq, Sl.own.injEq, Sl.val.injEq, Rv.v.injEq, Rv.fr.injEq, Option.some.injEq, List.cons.injEq, exists_eq_left, exists_eq_left', exists_eq, exists_eq', exists_const, exists_and_left, true_and, and_true, true_implies, forall_const, Bool.false_eq_true, Bool.true_eq_false, false_implies, implies_true, decide_eq_true_eq, decide_eq_false_iff_not, Nat.reduceSub, Nat.reduceAdd, id_eq, List.length_cons, List.length_nil, List.length_append, reduceCtorEq, and_self, ite_true, ite_false, if_true, if_false, Bool.not_true, Bool.not_false, Bool.not_eq_true', Bool.not_eq_false', outP1, outP2, outP3, noOwn, wipeS, restS, mkSeq, false_and, and_false, eq_self_iff_true, not_true_eq_false, not_false_eq_true, decide_true, decide_false]
  have ll : ∀ n : Nat, n ≤ 100 → n ≤ LINE := fun n h => le_line (by omega)
  have lm : (as.map D.int).length = as.length := List.length_map ..
  have cutV : okV (.tup (cutG (as.map D.int) none (some (if ((as.map D.int).length : Int) - 1 > 0 then ((as.map D.int).length : Int) - 1 else 0)))) := by
    refine okV_tup ?_ fun x hx => ?_
    · unfold cutG
      simp only [List.length_take, List.length_drop]
      omega
    · unfold cutG at hx
      exact ins_int as x (List.mem_of_mem_drop (List.mem_of_mem_take hx))
  refine ⟨ll _ (by omega), ll _ (by omega), ll _ (by omega), ll _ (by omega), ll _ (by omega), ll _ (by omega), ll _ (by omega), ll _ (by omega), ?_⟩
  have ok0 : ∀ x ∈ [D.tup (as.map D.int), D.lst (as.map D.int), D.tup (as.map D.int ++ [D.int 0]), D.tup (as.map D.int ++ [D.int (0 - 1)]),
      D.tup (cutG (as.map D.int) none (some (if ((as.map D.int).length : Int) - 1 > 0 then ((as.map D.int).length : Int) - 1 else 0))), D.tup [], D.tup [D.int 0], D.non, D.int 0, D.int ((as.map D.int).length : Int), D.str (Str.ofString "0"), D.tup [D.non]], okV x := by
    intro x hx
    simp only [List.mem_cons, List.not_mem_nil, or_false] at hx
    rcases hx with rfl | rfl | rfl | rfl | rfl | rfl | rfl | rfl | rfl | rfl | rfl | rfl
    · exact oT rfl (by omega)
    · exact ⟨rfl, fun xs e => by cases e⟩
    · exact oT (xs := as ++ [0]) (by simp) (by simp; omega)
    · exact oT (xs := as ++ [0 - 1]) (by simp) (by simp; omega)
    · exact cutV
    · exact okV_tup (by decide) fun x hx => by cases hx
    · exact oT (xs := [0]) rfl (by decide)
    · exact ⟨rfl, fun xs e => by cases e⟩
    · exact ⟨rfl, fun xs e => by cases e⟩
    · exact ⟨rfl, fun xs e => by cases e⟩
    · exact ⟨rfl, fun xs e => by cases e⟩
    · exact okV_tup (by decide) fun x hx => by rw [List.mem_singleton.mp hx]; rfl
  revert ok0
  generalize hF : [D.tup (as.map D.int), D.lst (as.map D.int), D.tup (as.map D.int ++ [D.int 0]), D.tup (as.map D.int ++ [D.int (0 - 1)]),
      D.tup (cutG (as.map D.int) none (some (if ((as.map D.int).length : Int) - 1 > 0 then ((as.map D.int).length : Int) - 1 else 0))), D.tup [], D.tup [D.int 0], D.non, D.int 0, D.int ((as.map D.int).length : Int), D.str (Str.ofString "0"), D.tup [D.non]] = fs
  have hfl : fs.length = 12 := by rw [← hF]; rfl
  intro ok0
  clear hF
  (try subst hk_law_odd_b2); unfold law_odd.b2; obtain ⟨k_law_odd_b2t0, hk_law_odd_b2t0⟩ : ∃ k, k = law_odd.b2t0 := ⟨_, rfl⟩; rw [← hk_law_odd_b2t0]; obtain ⟨k_law_odd_b3, hk_law_odd_b3⟩ : ∃ k, k = law_odd.b3 := ⟨_, rfl⟩; rw [← hk_law_odd_b3]; simp only [wpSs, wpS, wpE, wpA, wpC, wpT, wpTss, wpI, wpAnds, wpOrs, bindT, getS, setS, setsS, outS, slD, Pr.w, Pr.aw, pAdd, pInt, pMul, pCmp, pEq, pIsN, pLt, pLen, pAbs, pNeg, pInt1, pBool, pIsi, pIx, pSlc, pSl, pTupD, pLstD, pTupOf, pLstOf, pSum, pBs, pTwo, isNon, isIns, isTp, truth, items, ent, List.replicate, List.cons_append, List.nil_append, Rv.d, bodyP, at0, at1, at2, at3, at4, atm1, ixn1, ixn2, ixn3, set51, set52, set53, get51, D.int.injEq, D.bl.injEq, D.tup.injEq, D.lst.injEq, D.str.injEq, Sl.own.injEq, Sl.val.injEq, Rv.v.injEq, Rv.fr.injEq, Option.some.injEq, List.cons.injEq, exists_eq_left, exists_eq_left', exists_eq, exists_eq', exists_const, exists_and_left, true_and, and_true, true_implies, forall_const, Bool.false_eq_true, Bool.true_eq_false, false_implies, implies_true, decide_eq_true_eq, decide_eq_false_iff_not, Nat.reduceSub, Nat.reduceAdd, id_eq, List.length_cons, List.length_nil, List.length_append, reduceCtorEq, and_self, ite_true, ite_false, if_true, if_false, Bool.not_true, Bool.not_false, Bool.not_eq_true', Bool.not_eq_false', outP1, outP2, outP3, noOwn, wipeS, restS, mkSeq, false_and, and_false, eq_self_iff_true, not_true_eq_false, not_false_eq_true, decide_true, decide_false]
  refine ⟨fun h => ?_, fun h => ?_⟩
  · rw [lm] at h
    (try subst hk_law_odd_b2t0); unfold law_odd.b2t0; obtain ⟨k_law_odd_b2t1, hk_law_odd_b2t1⟩ : ∃ k, k = law_odd.b2t1 := ⟨_, rfl⟩; rw [← hk_law_odd_b2t1]; simp only [G_num.s0, wpSs, wpS, wpE, wpA, wpC, wpT, wpTss, wpI, wpAnds, wpOrs, bindT, getS, setS, setsS, outS, slD, Pr.w, Pr.aw, pAdd, pInt, pMul, pCmp, pEq, pIsN, pLt, pLen, pAbs, pNeg, pInt1, pBool, pIsi, pIx, pSlc, pSl, pTupD, pLstD, pTupOf, pLstOf, pSum, pBs, pTwo, isNon, isIns, isTp, truth, items, ent, List.replicate, List.cons_append, List.nil_append, Rv.d, bodyP, at0, at1, at2, at3, at4, atm1, ixn1, ixn2, ixn3, set51, set52, set53, get51, D.int.injEq, D.bl.injEq, D.tup.injEq, D.lst.injEq, D.str.injEq, Sl.own.injEq, Sl.val.injEq, Rv.v.injEq, Rv.fr.injEq, Option.some.injEq, List.cons.injEq, exists_eq_left, exists_eq_left', exists_eq, exists_eq', exists_const, exists_and_left, true_and, and_true, true_implies, forall_const, Bool.false_eq_true, Bool.true_eq_false, false_implies, implies_true, decide_eq_true_eq, decide_eq_false_iff_not, Nat.reduceSub, Nat.reduceAdd, id_eq, List.length_cons, List.length_nil, List.length_append, reduceCtorEq, and_self, ite_true, ite_false, if_true, if_false, Bool.not_true, Bool.not_false, Bool.not_eq_true', Bool.not_eq_false', outP1, outP2, outP3, noOwn, wipeS, restS, mkSeq, false_and, and_false, eq_self_iff_true, not_true_eq_false, not_false_eq_true, decide_true, decide_false]
    refine ⟨ds, _, rfl, hd, by rw [lm]; omega, by rw [lm]; omega, fun d1 r h1 r0 r1 => ?_⟩
    rw [lm] at r1
    obtain ⟨k, rfl⟩ : ∃ k : Nat, r = (k : Int) := ⟨r.toNat, by omega⟩
    have hk : k < as.length := by omega
    (try simp only [wpSs, wpS, wpE, wpA, wpC, wpT, wpTss, wpI, wpAnds, wpOrs, bindT, getS, setS, setsS, outS, slD, Pr.w, Pr.aw, pAdd, pInt, pMul, pCmp, pEq, pIsN, pLt, pLen, pAbs, pNeg, pInt1, pBool, pIsi, pIx, pSlc, pSl, pTupD, pLstD, pTupOf, pLstOf, pSum, pBs, pTwo, isNon, isIns, isTp, truth, items, ent, List.replicate, List.cons_append, List.nil_append, Rv.d, bodyP, at0, at1, at2, at3, at4, atm1, ixn1, ixn2, ixn3, set51, set52, set53, get51, D.int.injEq, D.bl.injEq, D.tup.injEq, D.lst.injEq, D.str.injEq, Sl.own.injEq, Sl.val.injEq, Rv.v.injEq, Rv.fr.injEq, Option.some.injEq, List.cons.injEq, exists_eq_left, exists_eq_left', exists_eq, exists_eq', exists_const, exists_and_left, true_and, and_true, true_implies, forall_const, Bool.false_eq_true, Bool.true_eq_false, false_implies, implies_true, decide_eq_true_eq, decide_eq_false_iff_not, Nat.reduceSub, Nat.reduceAdd, id_eq, List.length_cons, List.length_nil, List.length_append, reduceCtorEq, and_self, ite_true, ite_false, if_true, if_false, Bool.not_true, Bool.not_false, Bool.not_eq_true', Bool.not_eq_false', outP1, outP2, outP3, noOwn, wipeS, restS, mkSeq, false_and, and_false, eq_self_iff_true, not_true_eq_false, not_false_eq_true, decide_true, decide_false])
    (try subst hk_law_odd_b2t1); unfold law_odd.b2t1; obtain ⟨k_law_odd_b2t1l0, hk_law_odd_b2t1l0⟩ : ∃ k, k = law_odd.b2t1l0 := ⟨_, rfl⟩; rw [← hk_law_odd_b2t1l0]; simp only [wpSs, wpS, wpE, wpA, wpC, wpT, wpTss, wpI, wpAnds, wpOrs, bindT, getS, setS, setsS, outS, slD, Pr.w, Pr.aw, pAdd, pInt, pMul, pCmp, pEq, pIsN, pLt, pLen, pAbs, pNeg, pInt1, pBool, pIsi, pIx, pSlc, pSl, pTupD, pLstD, pTupOf, pLstOf, pSum, pBs, pTwo, isNon, isIns, isTp, truth, items, ent, List.replicate, List.cons_append, List.nil_append, Rv.d, bodyP, at0, at1, at2, at3, at4, atm1, ixn1, ixn2, ixn3, set51, set52, set53, get51, D.int.injEq, D.bl.injEq, D.tup.injEq, D.lst.injEq, D.str.injEq, Sl.own.injEq, Sl.val.injEq, Rv.v.injEq, Rv.fr.injEq, Option.some.injEq, List.cons.injEq, exists_eq_left, exists_eq_left', exists_eq, exists_eq', exists_const, exists_and_left, true_and, and_true, true_implies, forall_const, Bool.false_eq_true, Bool.true_eq_false, false_implies, implies_true, decide_eq_true_eq, decide_eq_false_iff_not, Nat.reduceSub, Nat.reduceAdd, id_eq, List.length_cons, List.length_nil, List.length_append, reduceCtorEq, and_self, ite_true, ite_false, if_true, if_false, Bool.not_true, Bool.not_false, Bool.not_eq_true', Bool.not_eq_false', outP1, outP2, outP3, noOwn, wipeS, restS, mkSeq, false_and, and_false, eq_self_iff_true, not_true_eq_false, not_false_eq_true, decide_true, decide_false]
    refine ⟨⟨by decide, by decide, by decide⟩, ⟨by decide, by decide, by decide⟩, by decide, by decide, ?_⟩
    refine forL_of (fun rest env => (∀ x ∈ rest, isIns x = false) ∧ ∃ (gs : List D) (y : Sl), gs.length + rest.length ≤ 30 ∧ (∀ x ∈ gs, okV x) ∧ env = [.own d1, .val (.tup (as.map .int)), .val (.int ((as.map D.int).length : Int)), .own gs, .val (.int (k : Int)), y]) (fun env hi => ?_) (fun v rest env hi R hR => ?_) _ _
      ⟨?_, fs, .un, ?_, ok0, rfl⟩
    · obtain ⟨-, gs, y, -, hg, rfl⟩ := hi
      (try subst hk_law_odd_b3); unfold law_odd.b3; simp only [wpSs, wpS, wpE, wpA, wpC, wpT, wpTss, wpI, wpAnds, wpOrs, bindT, getS, setS, setsS, outS, slD, Pr.w, Pr.aw, pAdd, pInt, pMul, pCmp, pEq, pIsN, pLt, pLen, pAbs, pNeg, pInt1, pBool, pIsi, pIx, pSlc, pSl, pTupD, pLstD, pTupOf, pLstOf, pSum, pBs, pTwo, isNon, isIns, isTp, truth, items, ent, List.replicate, List.cons_append, List.nil_append, Rv.d, bodyP, at0, at1, at2, at3, at4, atm1, ixn1, ixn2, ixn3, set51, set52, set53, get51, D.int.injEq, D.bl.injEq, D.tup.injEq, D.lst.injEq, D.str.injEq, Sl.own.injEq, Sl.val.injEq, Rv.v.injEq, Rv.fr.injEq, Option.some.injEq, List.cons.injEq, exists_eq_left, exists_eq_left', exists_eq, exists_eq', exists_const, exists_and_left, true_and, and_true, true_implies, forall_const, Bool.false_eq_true, Bool.true_eq_false, false_implies, implies_true, decide_eq_true_eq, decide_eq_false_iff_not, Nat.reduceSub, Nat.reduceAdd, id_eq, List.length_cons, List.length_nil, List.length_append, reduceCtorEq, and_self, ite_true, ite_false, if_true, if_false, Bool.not_true, Bool.not_false, Bool.not_eq_true', Bool.not_eq_false', outP1, outP2, outP3, noOwn, wipeS, restS, mkSeq, false_and, and_false, eq_self_iff_true, not_true_eq_false, not_false_eq_true, decide_true, decide_false]
      exact hq d1 gs h1 hg
    · obtain ⟨hv, gs, y, hn, hg, rfl⟩ := hi
      rw [List.length_cons] at hn
      (try subst hk_law_odd_b2t1l0); unfold law_odd.b2t1l0; simp only [wpSs, wpS, wpE, wpA, wpC, wpT, wpTss, wpI, wpAnds, wpOrs, bindT, getS, setS, setsS, outS, slD, Pr.w, Pr.aw, pAdd, pInt, pMul, pCmp, pEq, pIsN, pLt, pLen, pAbs, pNeg, pInt1, pBool, pIsi, pIx, pSlc, pSl, pTupD, pLstD, pTupOf, pLstOf, pSum, pBs, pTwo, isNon, isIns, isTp, truth, items, ent, List.replicate, List.cons_append, List.nil_append, Rv.d, bodyP, at0, at1, at2, at3, at4, atm1, ixn1, ixn2, ixn3, set51, set52, set53, get51, D.int.injEq, D.bl.injEq, D.tup.injEq, D.lst.injEq, D.str.injEq, Sl.own.injEq, Sl.val.injEq, Rv.v.injEq, Rv.fr.injEq, Option.some.injEq, List.cons.injEq, exists_eq_left, exists_eq_left', exists_eq, exists_eq', exists_const, exists_and_left, true_and, and_true, true_implies, forall_const, Bool.false_eq_true, Bool.true_eq_false, false_implies, implies_true, decide_eq_true_eq, decide_eq_false_iff_not, Nat.reduceSub, Nat.reduceAdd, id_eq, List.length_cons, List.length_nil, List.length_append, reduceCtorEq, and_self, ite_true, ite_false, if_true, if_false, Bool.not_true, Bool.not_false, Bool.not_eq_true', Bool.not_eq_false', outP1, outP2, outP3, noOwn, wipeS, restS, mkSeq, false_and, and_false, eq_self_iff_true, not_true_eq_false, not_false_eq_true, decide_true, decide_false]
      rw [show ((k : Int) + 1) = ((k + 1 : Nat) : Int) by omega, cut_hi (by omega), cut_lo (by omega)]
      refine ⟨ll _ (by omega), ll _ ?_, ll _ ?_, ?_, ?_⟩
      · simp only [List.length_take]; omega
      · simp only [List.length_append, List.length_take, List.length_drop, List.length_cons, List.length_nil]; omega
      · have : 1000 ≤ LINE := by decide
        omega
      · refine hR _ ⟨fun x hx => hv x (List.mem_cons_of_mem _ hx), gs ++ [_], _, by simp; omega, fun x hx => ?_, rfl⟩
        rcases List.mem_append.mp hx with z | z
        · exact hg x z
        · rw [List.mem_singleton.mp z]
          refine okV_tup ?_ fun x hx => ?_
          · simp only [List.length_append, List.length_take, List.length_drop, List.length_cons, List.length_nil]; omega
          · rcases List.mem_append.mp hx with z | z
            · rcases List.mem_append.mp z with z | z
              · exact ins_int as x (List.mem_of_mem_take z)
              · rw [List.mem_singleton.mp z]; exact hv v List.mem_cons_self
            · exact ins_int as x (List.mem_of_mem_drop z)
    · intro x hx
      simp only [List.mem_cons, List.not_mem_nil, or_false] at hx
      rcases hx with rfl | rfl | rfl | rfl | rfl | rfl | rfl | rfl | rfl | rfl <;> rfl
    · rw [hfl]; decide
  · (try subst hk_law_odd_b3); unfold law_odd.b3; simp only [wpSs, wpS, wpE, wpA, wpC, wpT, wpTss, wpI, wpAnds, wpOrs, bindT, getS, setS, setsS, outS, slD, Pr.w, Pr.aw, pAdd, pInt, pMul, pCmp, pEq, pIsN, pLt, pLen, pAbs, pNeg, pInt1, pBool, pIsi, pIx, pSlc, pSl, pTupD, pLstD, pTupOf, pLstOf, pSum, pBs, pTwo, isNon, isIns, isTp, truth, items, ent, List.replicate, List.cons_append, List.nil_append, Rv.d, bodyP, at0, at1, at2, at3, at4, atm1, ixn1, ixn2, ixn3, set51, set52, set53, get51, D.int.injEq, D.bl.injEq, D.tup.injEq, D.lst.injEq, D.str.injEq, Sl.own.injEq, Sl.val.injEq, Rv.v.injEq, Rv.fr.injEq, Option.some.injEq, List.cons.injEq, exists_eq_left, exists_eq_left', exists_eq, exists_eq', exists_const, exists_and_left, true_and, and_true, true_implies, forall_const, Bool.false_eq_true, Bool.true_eq_false, false_implies, implies_true, decide_eq_true_eq, decide_eq_false_iff_not, Nat.reduceSub, Nat.reduceAdd, id_eq, List.length_cons, List.length_nil, List.length_append, reduceCtorEq, and_self, ite_true, ite_false, if_true, if_false, Bool.not_true, Bool.not_false, Bool.not_eq_true', Bool.not_eq_false', outP1, outP2, outP3, noOwn, wipeS, restS, mkSeq, false_and, and_false, eq_self_iff_true, not_true_eq_false, not_false_eq_true, decide_true, decide_false]
    exact hq ds fs hd ok0
end K02

set_option Elab.async false
set_option linter.all false
set_option maxRecDepth 100000
namespace K02
open PySem PySem.Spec L2 Pd
def G_law : Gam := [("_law_begin", 1, sp_begin), ("_law_draw", 2, sp_draw), ("_law_rare", 2, sp_rare), ("_law_rows", 2, sp_rows), ("_law_changed", 2, sp_changed), ("_law_pair_right", 2, sp_pair), ("_law_part", 1, sp_part), ("_law_alone_right", 2, sp_alone),
  ("_law_same_row", 2, sp_same), ("zeros", 1, sp_zeros), ("unit", 2, sp_unit), ("_law_odd", 2, sp_odd), ("is_row", 2, sp_row), ("_law_is_ints", 3, sp_ints)]
theorem G_law.s0 : gam G_law 0 = sp_begin := rfl
theorem G_law.s1 : gam G_law 1 = sp_draw := rfl
theorem G_law.s2 : gam G_law 2 = sp_rare := rfl
theorem G_law.s3 : gam G_law 3 = sp_rows := rfl
theorem G_law.s4 : gam G_law 4 = sp_changed := rfl
theorem G_law.s5 : gam G_law 5 = sp_pair := rfl
theorem G_law.s6 : gam G_law 6 = sp_part := rfl
theorem G_law.s7 : gam G_law 7 = sp_alone := rfl
theorem G_law.s8 : gam G_law 8 = sp_same := rfl
theorem G_law.s9 : gam G_law 9 = sp_zeros := rfl
theorem G_law.s10 : gam G_law 10 = sp_unit := rfl
theorem G_law.s11 : gam G_law 11 = sp_odd := rfl
theorem G_law.s12 : gam G_law 12 = sp_row := rfl
theorem G_law.s13 : gam G_law 13 = sp_ints := rfl
def absD : D → D
  | .int a => .int (if a < 0 then -a else a)
  | x => x
def AllP (P : D → Prop) : List D → Prop
  | [] => True
  | d :: r => P d ∧ AllP P r
theorem OkB.ok {m n : Nat} {ns : List Int} (h : OkB m n ns) (hm : m ≤ 200) (hn : n ≤ 40) : Ok ns := ⟨by rw [h.1]; exact hn, fun x hx => (h.2 x hx).mono hm⟩
theorem zs_ok {n : Nat} : OkB 1 n (zs n) := ⟨List.length_replicate, fun x hx => by rw [(List.mem_replicate.mp hx).2]; unfold Bt; decide⟩
theorem rng_ok {m n : Nat} {g : Nat → Int} (h : ∀ k, k < n → Bt m (g k)) : OkB m n ((List.range n).map g) := ⟨by simp, fun x hx => by
  obtain ⟨k, hk, rfl⟩ := List.mem_map.mp hx
  exact h k (List.mem_range.mp hk)⟩
theorem un1_range {n p : Nat} (hp : p < n) : un1 n p = (List.range n).map fun k => if k = p then 1 else 0 := by
  unfold un1 zs
  apply List.ext_getElem
  · simp; omega
  · intro i h1 h2
    have hi : i < n := by simpa using h2
    rw [List.getElem_map, List.getElem_range]
    by_cases h : i < p
    · rw [List.getElem_append_left (by simp; omega), List.getElem_append_left (by simp; omega), List.getElem_replicate, if_neg (by omega)]
    · by_cases h' : i = p
      · subst h'
        rw [List.getElem_append_left (by simp), List.getElem_append_right (by simp), if_pos rfl]
        simp
      · rw [List.getElem_append_right (by simp; omega), List.getElem_replicate, if_neg h']
abbrev env2 (ns d : List D) (n : Nat) (as bs mo le ap ch : List Int) (pairs : List D) (r : List Sl) : Pd.Env :=
  [.val (.scr ns), .own d, .val (.int (n : Int)), .val (rw' as), .val (rw' bs), .val (.lst (rngD 0 n)), .val (rw' mo), .un, .val (rw' le), .val (rw' ap), .val (rw' ch), .val (rw' (zs n)), .val (.lst pairs)] ++ r
/-- the law's rows -/
structure Rows (n : Nat) (as bs mo le ap ch : List Int) : Prop where
  hn : n ≤ 30
  ha : OkB 140 n as
  hb : OkB 140 n bs
  hm : OkB 140 n mo
  he : OkB 140 n le
  hp : OkB 140 n ap
  hc : OkB 142 n ch
section
variable {ns d : List D} {n : Nat} {as bs mo le ap ch : List Int} {pairs : List D} {P : Po}
theorem t16 (hP : ∀ env, P.rt (.v (.bl true)) env) (hd : dO d) (N : Rows n as bs mo le ap ch) {x13 x14 x15 x16 x18 x19 x20 x21 : Sl} {br : List Int} (hbr : Ok br) :
    wpSs G_law law.b16 (env2 ns d n as bs mo le ap ch pairs [x13, x14, x15, x16, .val (rw' br), x18, x19, x20, x21]) P := by
  have hn := N.hn
  (try subst hk_law_b16); unfold law.b16; obtain ⟨k_law_b16l0, hk_law_b16l0⟩ : ∃ k, k = law.b16l0 := ⟨_, rfl⟩; rw [← hk_law_b16l0]; obtain ⟨k_law_b17, hk_law_b17⟩ : ∃ k, k = law.b17 := ⟨_, rfl⟩; rw [← hk_law_b17]; simp only [wpSs, wpS, wpE, wpA, wpC, wpT, wpTss, wpI, wpAnds, wpOrs, bindT, getS, setS, setsS, outS, slD, Pr.w, Pr.aw, pAdd, pInt, pMul, pCmp, pEq, pIsN, pLt, pLen, pAbs, pNeg, pInt1, pBool, pIsi, pIx, pSlc, pSl, pTupD, pLstD, pTupOf, pLstOf, pSum, pBs, pTwo, isNon, isIns, isTp, truth, items, ent, List.replicate, List.cons_append, List.nil_append, Rv.d, bodyP, at0, at1, at2, at3, at4, atm1, ixn1, ixn2, ixn3, set51, set52, set53, get51, D.int.injEq, D.bl.injEq, D.tup.injEq, D.lst.injEq, D.str.injEq, Sl.own.injEq, Sl.val.injEq, Rv.v.injEq, Rv.fr.injEq, Option.some.injEq, List.cons.injEq, exists_eq_left, exists_eq_left', exists_eq, exists_eq', exists_const, exists_and_left, true_and, and_true, true_implies, forall_const, Bool.false_eq_true, Bool.true_eq_false, false_implies, implies_true, decide_eq_true_eq, decide_eq_false_iff_not, Nat.reduceSub, Nat.reduceAdd, id_eq, List.length_cons, List.length_nil, List.length_append, reduceCtorEq, and_self, ite_true, ite_false, if_true, if_false, Bool.not_true, Bool.not_false, Bool.not_eq_true', Bool.not_eq_false', outP1, outP2, outP3, noOwn, wipeS, restS, mkSeq, false_and, and_false, eq_self_iff_true, not_true_eq_false, not_false_eq_true, decide_true, decide_false]
  refine ⟨by decide, ?_⟩
  refine forL_of (fun rest env => AllP (fun x => ∃ r, x = rw' r ∧ Ok r) rest ∧ ∃ d1 y z u v, dO d1 ∧ env = env2 ns d1 n as bs mo le ap ch pairs [x13, y, x15, x16, .val (rw' br), x18, z, u, v]) (fun env hi => ?_) (fun w rest env hi R hR => ?_) _ _
    ⟨⟨⟨as, rfl, N.ha.ok (by omega) (by omega)⟩, ⟨br, rfl, hbr⟩, trivial⟩, d, _, _, _, _, hd, rfl⟩
  · (try subst hk_law_b17); unfold law.b17; simp only [wpSs, wpS, wpE, wpA, wpC, wpT, wpTss, wpI, wpAnds, wpOrs, bindT, getS, setS, setsS, outS, slD, Pr.w, Pr.aw, pAdd, pInt, pMul, pCmp, pEq, pIsN, pLt, pLen, pAbs, pNeg, pInt1, pBool, pIsi, pIx, pSlc, pSl, pTupD, pLstD, pTupOf, pLstOf, pSum, pBs, pTwo, isNon, isIns, isTp, truth, items, ent, List.replicate, List.cons_append, List.nil_append, Rv.d, bodyP, at0, at1, at2, at3, at4, atm1, ixn1, ixn2, ixn3, set51, set52, set53, get51, D.int.injEq, D.bl.injEq, D.tup.injEq, D.lst.injEq, D.str.injEq, Sl.own.injEq, Sl.val.injEq, Rv.v.injEq, Rv.fr.injEq, Option.some.injEq, List.cons.injEq, exists_eq_left, exists_eq_left', exists_eq, exists_eq', exists_const, exists_and_left, true_and, and_true, true_implies, forall_const, Bool.false_eq_true, Bool.true_eq_false, false_implies, implies_true, decide_eq_true_eq, decide_eq_false_iff_not, Nat.reduceSub, Nat.reduceAdd, id_eq, List.length_cons, List.length_nil, List.length_append, reduceCtorEq, and_self, ite_true, ite_false, if_true, if_false, Bool.not_true, Bool.not_false, Bool.not_eq_true', Bool.not_eq_false', outP1, outP2, outP3, noOwn, wipeS, restS, mkSeq, false_and, and_false, eq_self_iff_true, not_true_eq_false, not_false_eq_true, decide_true, decide_false]
    exact hP env
  · obtain ⟨⟨⟨r, rfl, hr⟩, hrest⟩, d1, y, z, u, v, hd1, rfl⟩ := hi
    (try subst hk_law_b16l0); unfold law.b16l0; obtain ⟨k_law_b16l0l0, hk_law_b16l0l0⟩ : ∃ k, k = law.b16l0l0 := ⟨_, rfl⟩; rw [← hk_law_b16l0l0]; simp only [G_law.s11, wpSs, wpS, wpE, wpA, wpC, wpT, wpTss, wpI, wpAnds, wpOrs, bindT, getS, setS, setsS, outS, slD, Pr.w, Pr.aw, pAdd, pInt, pMul, pCmp, pEq, pIsN, pLt, pLen, pAbs, pNeg, pInt1, pBool, pIsi, pIx, pSlc, pSl, pTupD, pLstD, pTupOf, pLstOf, pSum, pBs, pTwo, isNon, isIns, isTp, truth, items, ent, List.replicate, List.cons_append, List.nil_append, Rv.d, bodyP, at0, at1, at2, at3, at4, atm1, ixn1, ixn2, ixn3, set51, set52, set53, get51, D.int.injEq, D.bl.injEq, D.tup.injEq, D.lst.injEq, D.str.injEq, Sl.own.injEq, Sl.val.injEq, Rv.v.injEq, Rv.fr.injEq, Option.some.injEq, List.cons.injEq, exists_eq_left, exists_eq_left', exists_eq, exists_eq', exists_const, exists_and_left, true_and, and_true, true_implies, forall_const, Bool.false_eq_true, Bool.true_eq_false, false_implies, implies_true, decide_eq_true_eq, decide_eq_false_iff_not, Nat.reduceSub, Nat.reduceAdd, id_eq, List.length_cons, List.length_nil, List.length_append, reduceCtorEq, and_self, ite_true, ite_false, if_true, if_false, Bool.not_true, Bool.not_false, Bool.not_eq_true', Bool.not_eq_false', outP1, outP2, outP3, noOwn, wipeS, restS, mkSeq, false_and, and_false, eq_self_iff_true, not_true_eq_false, not_false_eq_true, decide_true, decide_false]
    refine ⟨d1, r, rfl, hd1, hr, fun d2 xs hd2 hx => ?_⟩
    (try simp only [wpSs, wpS, wpE, wpA, wpC, wpT, wpTss, wpI, wpAnds, wpOrs, bindT, getS, setS, setsS, outS, slD, Pr.w, Pr.aw, pAdd, pInt, pMul, pCmp, pEq, pIsN, pLt, pLen, pAbs, pNeg, pInt1, pBool, pIsi, pIx, pSlc, pSl, pTupD, pLstD, pTupOf, pLstOf, pSum, pBs, pTwo, isNon, isIns, isTp, truth, items, ent, List.replicate, List.cons_append, List.nil_append, Rv.d, bodyP, at0, at1, at2, at3, at4, atm1, ixn1, ixn2, ixn3, set51, set52, set53, get51, D.int.injEq, D.bl.injEq, D.tup.injEq, D.lst.injEq, D.str.injEq, Sl.own.injEq, Sl.val.injEq, Rv.v.injEq, Rv.fr.injEq, Option.some.injEq, List.cons.injEq, exists_eq_left, exists_eq_left', exists_eq, exists_eq', exists_const, exists_and_left, true_and, and_true, true_implies, forall_const, Bool.false_eq_true, Bool.true_eq_false, false_implies, implies_true, decide_eq_true_eq, decide_eq_false_iff_not, Nat.reduceSub, Nat.reduceAdd, id_eq, List.length_cons, List.length_nil, List.length_append, reduceCtorEq, and_self, ite_true, ite_false, if_true, if_false, Bool.not_true, Bool.not_false, Bool.not_eq_true', Bool.not_eq_false', outP1, outP2, outP3, noOwn, wipeS, restS, mkSeq, false_and, and_false, eq_self_iff_true, not_true_eq_false, not_false_eq_true, decide_true, decide_false])
    refine forL_of (fun rest env => (∀ x ∈ rest, okV x) ∧ ∃ z u v, env = env2 ns d2 n as bs mo le ap ch pairs [x13, .val (rw' r), x15, x16, .val (rw' br), x18, z, u, v]) (fun env hi => ?_) (fun w rest env hi R2 hR2 => ?_) _ _ ⟨hx, _, _, _, rfl⟩
    · obtain ⟨-, z, u, v, rfl⟩ := hi
      exact hR _ ⟨hrest, d2, _, _, _, _, hd2, rfl⟩
    · obtain ⟨hw, z, u, v, rfl⟩ := hi
      have okw := hw w List.mem_cons_self
      (try subst hk_law_b16l0l0); unfold law.b16l0l0; obtain ⟨k_law_b16l0l0l0, hk_law_b16l0l0l0⟩ : ∃ k, k = law.b16l0l0l0 := ⟨_, rfl⟩; rw [← hk_law_b16l0l0l0]; simp only [wpSs, wpS, wpE, wpA, wpC, wpT, wpTss, wpI, wpAnds, wpOrs, bindT, getS, setS, setsS, outS, slD, Pr.w, Pr.aw, pAdd, pInt, pMul, pCmp, pEq, pIsN, pLt, pLen, pAbs, pNeg, pInt1, pBool, pIsi, pIx, pSlc, pSl, pTupD, pLstD, pTupOf, pLstOf, pSum, pBs, pTwo, isNon, isIns, isTp, truth, items, ent, List.replicate, List.cons_append, List.nil_append, Rv.d, bodyP, at0, at1, at2, at3, at4, atm1, ixn1, ixn2, ixn3, set51, set52, set53, get51, D.int.injEq, D.bl.injEq, D.tup.injEq, D.lst.injEq, D.str.injEq, Sl.own.injEq, Sl.val.injEq, Rv.v.injEq, Rv.fr.injEq, Option.some.injEq, List.cons.injEq, exists_eq_left, exists_eq_left', exists_eq, exists_eq', exists_const, exists_and_left, true_and, and_true, true_implies, forall_const, Bool.false_eq_true, Bool.true_eq_false, false_implies, implies_true, decide_eq_true_eq, decide_eq_false_iff_not, Nat.reduceSub, Nat.reduceAdd, id_eq, List.length_cons, List.length_nil, List.length_append, reduceCtorEq, and_self, ite_true, ite_false, if_true, if_false, Bool.not_true, Bool.not_false, Bool.not_eq_true', Bool.not_eq_false', outP1, outP2, outP3, noOwn, wipeS, restS, mkSeq, false_and, and_false, eq_self_iff_true, not_true_eq_false, not_false_eq_true, decide_true, decide_false]
      refine ⟨by decide, ?_⟩
      refine forL_of (fun rest env => AllP (fun x => ∃ m : Int, x = .int m) rest ∧ ∃ u v, env = env2 ns d2 n as bs mo le ap ch pairs [x13, .val (rw' r), x15, x16, .val (rw' br), x18, .val w, u, v]) (fun env hi => ?_) (fun w2 rest env hi R3 hR3 => ?_) _ _ ⟨⟨⟨_, rfl⟩, ⟨_, rfl⟩, ⟨_, rfl⟩, trivial⟩, _, _, rfl⟩
      · obtain ⟨-, u, v, rfl⟩ := hi
        exact hR2 _ ⟨fun x hx => hw x (List.mem_cons_of_mem _ hx), _, _, _, rfl⟩
      · obtain ⟨⟨⟨m, rfl⟩, hrest3⟩, u, v, rfl⟩ := hi
        (try subst hk_law_b16l0l0l0); unfold law.b16l0l0l0; obtain ⟨k_law_b16l0l0l1, hk_law_b16l0l0l1⟩ : ∃ k, k = law.b16l0l0l1 := ⟨_, rfl⟩; rw [← hk_law_b16l0l0l1]; simp only [G_law.s12, wpSs, wpS, wpE, wpA, wpC, wpT, wpTss, wpI, wpAnds, wpOrs, bindT, getS, setS, setsS, outS, slD, Pr.w, Pr.aw, pAdd, pInt, pMul, pCmp, pEq, pIsN, pLt, pLen, pAbs, pNeg, pInt1, pBool, pIsi, pIx, pSlc, pSl, pTupD, pLstD, pTupOf, pLstOf, pSum, pBs, pTwo, isNon, isIns, isTp, truth, items, ent, List.replicate, List.cons_append, List.nil_append, Rv.d, bodyP, at0, at1, at2, at3, at4, atm1, ixn1, ixn2, ixn3, set51, set52, set53, get51, D.int.injEq, D.bl.injEq, D.tup.injEq, D.lst.injEq, D.str.injEq, Sl.own.injEq, Sl.val.injEq, Rv.v.injEq, Rv.fr.injEq, Option.some.injEq, List.cons.injEq, exists_eq_left, exists_eq_left', exists_eq, exists_eq', exists_const, exists_and_left, true_and, and_true, true_implies, forall_const, Bool.false_eq_true, Bool.true_eq_false, false_implies, implies_true, decide_eq_true_eq, decide_eq_false_iff_not, Nat.reduceSub, Nat.reduceAdd, id_eq, List.length_cons, List.length_nil, List.length_append, reduceCtorEq, and_self, ite_true, ite_false, if_true, if_false, Bool.not_true, Bool.not_false, Bool.not_eq_true', Bool.not_eq_false', outP1, outP2, outP3, noOwn, wipeS, restS, mkSeq, false_and, and_false, eq_self_iff_true, not_true_eq_false, not_false_eq_true, decide_true, decide_false]
        refine ⟨w, m, rfl, okw, ?_⟩
        (try simp only [wpSs, wpS, wpE, wpA, wpC, wpT, wpTss, wpI, wpAnds, wpOrs, bindT, getS, setS, setsS, outS, slD, Pr.w, Pr.aw, pAdd, pInt, pMul, pCmp, pEq, pIsN, pLt, pLen, pAbs, pNeg, pInt1, pBool, pIsi, pIx, pSlc, pSl, pTupD, pLstD, pTupOf, pLstOf, pSum, pBs, pTwo, isNon, isIns, isTp, truth, items, ent, List.replicate, List.cons_append, List.nil_append, Rv.d, bodyP, at0, at1, at2, at3, at4, atm1, ixn1, ixn2, ixn3, set51, set52, set53, get51, D.int.injEq, D.bl.injEq, D.tup.injEq, D.lst.injEq, D.str.injEq, Sl.own.injEq, Sl.val.injEq, Rv.v.injEq, Rv.fr.injEq, Option.some.injEq, List.cons.injEq, exists_eq_left, exists_eq_left', exists_eq, exists_eq', exists_const, exists_and_left, true_and, and_true, true_implies, forall_const, Bool.false_eq_true, Bool.true_eq_false, false_implies, implies_true, decide_eq_true_eq, decide_eq_false_iff_not, Nat.reduceSub, Nat.reduceAdd, id_eq, List.length_cons, List.length_nil, List.length_append, reduceCtorEq, and_self, ite_true, ite_false, if_true, if_false, Bool.not_true, Bool.not_false, Bool.not_eq_true', Bool.not_eq_false', outP1, outP2, outP3, noOwn, wipeS, restS, mkSeq, false_and, and_false, eq_self_iff_true, not_true_eq_false, not_false_eq_true, decide_true, decide_false])
        (try subst hk_law_b16l0l0l1); unfold law.b16l0l0l1; obtain ⟨k_law_b16l0l0l1t0, hk_law_b16l0l0l1t0⟩ : ∃ k, k = law.b16l0l0l1t0 := ⟨_, rfl⟩; rw [← hk_law_b16l0l0l1t0]; simp only [G_law.s13, wpSs, wpS, wpE, wpA, wpC, wpT, wpTss, wpI, wpAnds, wpOrs, bindT, getS, setS, setsS, outS, slD, Pr.w, Pr.aw, pAdd, pInt, pMul, pCmp, pEq, pIsN, pLt, pLen, pAbs, pNeg, pInt1, pBool, pIsi, pIx, pSlc, pSl, pTupD, pLstD, pTupOf, pLstOf, pSum, pBs, pTwo, isNon, isIns, isTp, truth, items, ent, List.replicate, List.cons_append, List.nil_append, Rv.d, bodyP, at0, at1, at2, at3, at4, atm1, ixn1, ixn2, ixn3, set51, set52, set53, get51, D.int.injEq, D.bl.injEq, D.tup.injEq, D.lst.injEq, D.str.injEq, Sl.own.injEq, Sl.val.injEq, Rv.v.injEq, Rv.fr.injEq, Option.some.injEq, List.cons.injEq, exists_eq_left, exists_eq_left', exists_eq, exists_eq', exists_const, exists_and_left, true_and, and_true, true_implies, forall_const, Bool.false_eq_true, Bool.true_eq_false, false_implies, implies_true, decide_eq_true_eq, decide_eq_false_iff_not, Nat.reduceSub, Nat.reduceAdd, id_eq, List.length_cons, List.length_nil, List.length_append, reduceCtorEq, and_self, ite_true, ite_false, if_true, if_false, Bool.not_true, Bool.not_false, Bool.not_eq_true', Bool.not_eq_false', outP1, outP2, outP3, noOwn, wipeS, restS, mkSeq, false_and, and_false, eq_self_iff_true, not_true_eq_false, not_false_eq_true, decide_true, decide_false]
        refine ⟨w, m, 0, rfl, okw, ?_⟩
        (try simp only [deq_bl, plain_bl, wpSs, wpS, wpE, wpA, wpC, wpT, wpTss, wpI, wpAnds, wpOrs, bindT, getS, setS, setsS, outS, slD, Pr.w, Pr.aw, pAdd, pInt, pMul, pCmp, pEq, pIsN, pLt, pLen, pAbs, pNeg, pInt1, pBool, pIsi, pIx, pSlc, pSl, pTupD, pLstD, pTupOf, pLstOf, pSum, pBs, pTwo, isNon, isIns, isTp, truth, items, ent, List.replicate, List.cons_append, List.nil_append, Rv.d, bodyP, at0, at1, at2, at3, at4, atm1, ixn1, ixn2, ixn3, set51, set52, set53, get51, D.int.injEq, D.bl.injEq, D.tup.injEq, D.lst.injEq, D.str.injEq, Sl.own.injEq, Sl.val.injEq, Rv.v.injEq, Rv.fr.injEq, Option.some.injEq, List.cons.injEq, exists_eq_left, exists_eq_left', exists_eq, exists_eq', exists_const, exists_and_left, true_and, and_true, true_implies, forall_const, Bool.false_eq_true, Bool.true_eq_false, false_implies, implies_true, decide_eq_true_eq, decide_eq_false_iff_not, Nat.reduceSub, Nat.reduceAdd, id_eq, List.length_cons, List.length_nil, List.length_append, reduceCtorEq, and_self, ite_true, ite_false, if_true, if_false, Bool.not_true, Bool.not_false, Bool.not_eq_true', Bool.not_eq_false', outP1, outP2, outP3, noOwn, wipeS, restS, mkSeq, false_and, and_false, eq_self_iff_true, not_true_eq_false, not_false_eq_true, decide_true, decide_false])
        exact hR3 _ ⟨hrest3, _, _, rfl⟩
theorem t14 (hP : ∀ env, P.rt (.v (.bl true)) env) (hd : dO d) (N : Rows n as bs mo le ap ch) {x13 x14 x15 : Sl} :
    wpSs G_law law.b14 (env2 ns d n as bs mo le ap ch pairs [x13, x14, x15, .un, .un, .un, .un, .un, .un]) P := by
  have hn := N.hn
  (try subst hk_law_b14); unfold law.b14; obtain ⟨k_law_b14l0, hk_law_b14l0⟩ : ∃ k, k = law.b14l0 := ⟨_, rfl⟩; rw [← hk_law_b14l0]; obtain ⟨k_law_b15, hk_law_b15⟩ : ∃ k, k = law.b15 := ⟨_, rfl⟩; rw [← hk_law_b15]; simp only [wpSs, wpS, wpE, wpA, wpC, wpT, wpTss, wpI, wpAnds, wpOrs, bindT, getS, setS, setsS, outS, slD, Pr.w, Pr.aw, pAdd, pInt, pMul, pCmp, pEq, pIsN, pLt, pLen, pAbs, pNeg, pInt1, pBool, pIsi, pIx, pSlc, pSl, pTupD, pLstD, pTupOf, pLstOf, pSum, pBs, pTwo, isNon, isIns, isTp, truth, items, ent, List.replicate, List.cons_append, List.nil_append, Rv.d, bodyP, at0, at1, at2, at3, at4, atm1, ixn1, ixn2, ixn3, set51, set52, set53, get51, D.int.injEq, D.bl.injEq, D.tup.injEq, D.lst.injEq, D.str.injEq, Sl.own.injEq, Sl.val.injEq, Rv.v.injEq, Rv.fr.injEq, Option.some.injEq, List.cons.injEq, exists_eq_left, exists_eq_left', exists_eq, exists_eq', exists_const, exists_and_left, true_and, and_true, true_implies, forall_const, Bool.false_eq_true, Bool.true_eq_false, false_implies, implies_true, decide_eq_true_eq, decide_eq_false_iff_not, Nat.reduceSub, Nat.reduceAdd, id_eq, List.length_cons, List.length_nil, List.length_append, reduceCtorEq, and_self, ite_true, ite_false, if_true, if_false, Bool.not_true, Bool.not_false, Bool.not_eq_true', Bool.not_eq_false', outP1, outP2, outP3, noOwn, wipeS, restS, mkSeq, false_and, and_false, eq_self_iff_true, not_true_eq_false, not_false_eq_true, decide_true, decide_false]
  refine forL_of (fun rest env => (∀ x ∈ rest, ∃ k : Nat, x = .int (0 + (k : Int)) ∧ k < n) ∧ ∃ y, env = env2 ns d n as bs mo le ap ch pairs [x13, x14, x15, y, .un, .un, .un, .un, .un]) (fun env hi => ?_) (fun w rest env hi R hR => ?_) _ _ ⟨fun x hx => ?_, _, rfl⟩
  · obtain ⟨-, y, rfl⟩ := hi
    (try subst hk_law_b15); unfold law.b15; obtain ⟨k_law_b16, hk_law_b16⟩ : ∃ k, k = law.b16 := ⟨_, rfl⟩; rw [← hk_law_b16]; simp only [wpSs, wpS, wpE, wpA, wpC, wpT, wpTss, wpI, wpAnds, wpOrs, bindT, getS, setS, setsS, outS, slD, Pr.w, Pr.aw, pAdd, pInt, pMul, pCmp, pEq, pIsN, pLt, pLen, pAbs, pNeg, pInt1, pBool, pIsi, pIx, pSlc, pSl, pTupD, pLstD, pTupOf, pLstOf, pSum, pBs, pTwo, isNon, isIns, isTp, truth, items, ent, List.replicate, List.cons_append, List.nil_append, Rv.d, bodyP, at0, at1, at2, at3, at4, atm1, ixn1, ixn2, ixn3, set51, set52, set53, get51, D.int.injEq, D.bl.injEq, D.tup.injEq, D.lst.injEq, D.str.injEq, Sl.own.injEq, Sl.val.injEq, Rv.v.injEq, Rv.fr.injEq, Option.some.injEq, List.cons.injEq, exists_eq_left, exists_eq_left', exists_eq, exists_eq', exists_const, exists_and_left, true_and, and_true, true_implies, forall_const, Bool.false_eq_true, Bool.true_eq_false, false_implies, implies_true, decide_eq_true_eq, decide_eq_false_iff_not, Nat.reduceSub, Nat.reduceAdd, id_eq, List.length_cons, List.length_nil, List.length_append, reduceCtorEq, and_self, ite_true, ite_false, if_true, if_false, Bool.not_true, Bool.not_false, Bool.not_eq_true', Bool.not_eq_false', outP1, outP2, outP3, noOwn, wipeS, restS, mkSeq, false_and, and_false, eq_self_iff_true, not_true_eq_false, not_false_eq_true, decide_true, decide_false]
    simp only [rw']
    (try simp only [wpSs, wpS, wpE, wpA, wpC, wpT, wpTss, wpI, wpAnds, wpOrs, bindT, getS, setS, setsS, outS, slD, Pr.w, Pr.aw, pAdd, pInt, pMul, pCmp, pEq, pIsN, pLt, pLen, pAbs, pNeg, pInt1, pBool, pIsi, pIx, pSlc, pSl, pTupD, pLstD, pTupOf, pLstOf, pSum, pBs, pTwo, isNon, isIns, isTp, truth, items, ent, List.replicate, List.cons_append, List.nil_append, Rv.d, bodyP, at0, at1, at2, at3, at4, atm1, ixn1, ixn2, ixn3, set51, set52, set53, get51, D.int.injEq, D.bl.injEq, D.tup.injEq, D.lst.injEq, D.str.injEq, Sl.own.injEq, Sl.val.injEq, Rv.v.injEq, Rv.fr.injEq, Option.some.injEq, List.cons.injEq, exists_eq_left, exists_eq_left', exists_eq, exists_eq', exists_const, exists_and_left, true_and, and_true, true_implies, forall_const, Bool.false_eq_true, Bool.true_eq_false, false_implies, implies_true, decide_eq_true_eq, decide_eq_false_iff_not, Nat.reduceSub, Nat.reduceAdd, id_eq, List.length_cons, List.length_nil, List.length_append, reduceCtorEq, and_self, ite_true, ite_false, if_true, if_false, Bool.not_true, Bool.not_false, Bool.not_eq_true', Bool.not_eq_false', outP1, outP2, outP3, noOwn, wipeS, restS, mkSeq, false_and, and_false, eq_self_iff_true, not_true_eq_false, not_false_eq_true, decide_true, decide_false])
    refine comp_map absD _ (len_row (N.hb.ok (by omega) (by omega))) (fun x hx R hR => ?_) ?_
    · obtain ⟨a, _, rfl⟩ := List.mem_map.mp hx
      (try simp only [wpSs, wpS, wpE, wpA, wpC, wpT, wpTss, wpI, wpAnds, wpOrs, bindT, getS, setS, setsS, outS, slD, Pr.w, Pr.aw, pAdd, pInt, pMul, pCmp, pEq, pIsN, pLt, pLen, pAbs, pNeg, pInt1, pBool, pIsi, pIx, pSlc, pSl, pTupD, pLstD, pTupOf, pLstOf, pSum, pBs, pTwo, isNon, isIns, isTp, truth, items, ent, List.replicate, List.cons_append, List.nil_append, Rv.d, bodyP, at0, at1, at2, at3, at4, atm1, ixn1, ixn2, ixn3, set51, set52, set53, get51, D.int.injEq, D.bl.injEq, D.tup.injEq, D.lst.injEq, D.str.injEq, Sl.own.injEq, Sl.val.injEq, Rv.v.injEq, Rv.fr.injEq, Option.some.injEq, List.cons.injEq, exists_eq_left, exists_eq_left', exists_eq, exists_eq', exists_const, exists_and_left, true_and, and_true, true_implies, forall_const, Bool.false_eq_true, Bool.true_eq_false, false_implies, implies_true, decide_eq_true_eq, decide_eq_false_iff_not, Nat.reduceSub, Nat.reduceAdd, id_eq, List.length_cons, List.length_nil, List.length_append, reduceCtorEq, and_self, ite_true, ite_false, if_true, if_false, Bool.not_true, Bool.not_false, Bool.not_eq_true', Bool.not_eq_false', outP1, outP2, outP3, noOwn, wipeS, restS, mkSeq, false_and, and_false, eq_self_iff_true, not_true_eq_false, not_false_eq_true, decide_true, decide_false])
      exact hR
    · (try simp only [wpSs, wpS, wpE, wpA, wpC, wpT, wpTss, wpI, wpAnds, wpOrs, bindT, getS, setS, setsS, outS, slD, Pr.w, Pr.aw, pAdd, pInt, pMul, pCmp, pEq, pIsN, pLt, pLen, pAbs, pNeg, pInt1, pBool, pIsi, pIx, pSlc, pSl, pTupD, pLstD, pTupOf, pLstOf, pSum, pBs, pTwo, isNon, isIns, isTp, truth, items, ent, List.replicate, List.cons_append, List.nil_append, Rv.d, bodyP, at0, at1, at2, at3, at4, atm1, ixn1, ixn2, ixn3, set51, set52, set53, get51, D.int.injEq, D.bl.injEq, D.tup.injEq, D.lst.injEq, D.str.injEq, Sl.own.injEq, Sl.val.injEq, Rv.v.injEq, Rv.fr.injEq, Option.some.injEq, List.cons.injEq, exists_eq_left, exists_eq_left', exists_eq, exists_eq', exists_const, exists_and_left, true_and, and_true, true_implies, forall_const, Bool.false_eq_true, Bool.true_eq_false, false_implies, implies_true, decide_eq_true_eq, decide_eq_false_iff_not, Nat.reduceSub, Nat.reduceAdd, id_eq, List.length_cons, List.length_nil, List.length_append, reduceCtorEq, and_self, ite_true, ite_false, if_true, if_false, Bool.not_true, Bool.not_false, Bool.not_eq_true', Bool.not_eq_false', outP1, outP2, outP3, noOwn, wipeS, restS, mkSeq, false_and, and_false, eq_self_iff_true, not_true_eq_false, not_false_eq_true, decide_true, decide_false])
      subst hk_law_b16
      have e : (bs.map D.int).map absD = (bs.map fun a => if a < 0 then -a else a).map .int := by rw [List.map_map, List.map_map]; rfl
      rw [e]
      refine t16 (br := bs.map fun a => if a < 0 then -a else a) hP hd N ⟨by rw [List.length_map, N.hb.1]; omega, fun x hx => ?_⟩
      obtain ⟨a, ha, rfl⟩ := List.mem_map.mp hx
      exact (N.hb.2 a ha).abs.mono (by omega)
  · obtain ⟨hw, y, rfl⟩ := hi
    obtain ⟨p, rfl, hp⟩ := hw w List.mem_cons_self
    (try subst hk_law_b14l0); unfold law.b14l0; obtain ⟨k_law_b14l0t0, hk_law_b14l0t0⟩ : ∃ k, k = law.b14l0t0 := ⟨_, rfl⟩; rw [← hk_law_b14l0t0]; simp only [G_law.s8, G_law.s10, wpSs, wpS, wpE, wpA, wpC, wpT, wpTss, wpI, wpAnds, wpOrs, bindT, getS, setS, setsS, outS, slD, Pr.w, Pr.aw, pAdd, pInt, pMul, pCmp, pEq, pIsN, pLt, pLen, pAbs, pNeg, pInt1, pBool, pIsi, pIx, pSlc, pSl, pTupD, pLstD, pTupOf, pLstOf, pSum, pBs, pTwo, isNon, isIns, isTp, truth, items, ent, List.replicate, List.cons_append, List.nil_append, Rv.d, bodyP, at0, at1, at2, at3, at4, atm1, ixn1, ixn2, ixn3, set51, set52, set53, get51, D.int.injEq, D.bl.injEq, D.tup.injEq, D.lst.injEq, D.str.injEq, Sl.own.injEq, Sl.val.injEq, Rv.v.injEq, Rv.fr.injEq, Option.some.injEq, List.cons.injEq, exists_eq_left, exists_eq_left', exists_eq, exists_eq', exists_const, exists_and_left, true_and, and_true, true_implies, forall_const, Bool.false_eq_true, Bool.true_eq_false, false_implies, implies_true, decide_eq_true_eq, decide_eq_false_iff_not, Nat.reduceSub, Nat.reduceAdd, id_eq, List.length_cons, List.length_nil, List.length_append, reduceCtorEq, and_self, ite_true, ite_false, if_true, if_false, Bool.not_true, Bool.not_false, Bool.not_eq_true', Bool.not_eq_false', outP1, outP2, outP3, noOwn, wipeS, restS, mkSeq, false_and, and_false, eq_self_iff_true, not_true_eq_false, not_false_eq_true, decide_true, decide_false]
    refine ⟨n, p, by rw [Int.zero_add], by omega, hp, ?_⟩
    (try simp only [G_law.s8, wpSs, wpS, wpE, wpA, wpC, wpT, wpTss, wpI, wpAnds, wpOrs, bindT, getS, setS, setsS, outS, slD, Pr.w, Pr.aw, pAdd, pInt, pMul, pCmp, pEq, pIsN, pLt, pLen, pAbs, pNeg, pInt1, pBool, pIsi, pIx, pSlc, pSl, pTupD, pLstD, pTupOf, pLstOf, pSum, pBs, pTwo, isNon, isIns, isTp, truth, items, ent, List.replicate, List.cons_append, List.nil_append, Rv.d, bodyP, at0, at1, at2, at3, at4, atm1, ixn1, ixn2, ixn3, set51, set52, set53, get51, D.int.injEq, D.bl.injEq, D.tup.injEq, D.lst.injEq, D.str.injEq, Sl.own.injEq, Sl.val.injEq, Rv.v.injEq, Rv.fr.injEq, Option.some.injEq, List.cons.injEq, exists_eq_left, exists_eq_left', exists_eq, exists_eq', exists_const, exists_and_left, true_and, and_true, true_implies, forall_const, Bool.false_eq_true, Bool.true_eq_false, false_implies, implies_true, decide_eq_true_eq, decide_eq_false_iff_not, Nat.reduceSub, Nat.reduceAdd, id_eq, List.length_cons, List.length_nil, List.length_append, reduceCtorEq, and_self, ite_true, ite_false, if_true, if_false, Bool.not_true, Bool.not_false, Bool.not_eq_true', Bool.not_eq_false', outP1, outP2, outP3, noOwn, wipeS, restS, mkSeq, false_and, and_false, eq_self_iff_true, not_true_eq_false, not_false_eq_true, decide_true, decide_false])
    refine comp_rng (fun k => .int (if k = p then 1 else 0)) n (by omega) (fun k hk R2 hR2 => ?_) ?_
    · (try simp only [deq_int, plain_int, wpSs, wpS, wpE, wpA, wpC, wpT, wpTss, wpI, wpAnds, wpOrs, bindT, getS, setS, setsS, outS, slD, Pr.w, Pr.aw, pAdd, pInt, pMul, pCmp, pEq, pIsN, pLt, pLen, pAbs, pNeg, pInt1, pBool, pIsi, pIx, pSlc, pSl, pTupD, pLstD, pTupOf, pLstOf, pSum, pBs, pTwo, isNon, isIns, isTp, truth, items, ent, List.replicate, List.cons_append, List.nil_append, Rv.d, bodyP, at0, at1, at2, at3, at4, atm1, ixn1, ixn2, ixn3, set51, set52, set53, get51, D.int.injEq, D.bl.injEq, D.tup.injEq, D.lst.injEq, D.str.injEq, Sl.own.injEq, Sl.val.injEq, Rv.v.injEq, Rv.fr.injEq, Option.some.injEq, List.cons.injEq, exists_eq_left, exists_eq_left', exists_eq, exists_eq', exists_const, exists_and_left, true_and, and_true, true_implies, forall_const, Bool.false_eq_true, Bool.true_eq_false, false_implies, implies_true, decide_eq_true_eq, decide_eq_false_iff_not, Nat.reduceSub, Nat.reduceAdd, id_eq, List.length_cons, List.length_nil, List.length_append, reduceCtorEq, and_self, ite_true, ite_false, if_true, if_false, Bool.not_true, Bool.not_false, Bool.not_eq_true', Bool.not_eq_false', outP1, outP2, outP3, noOwn, wipeS, restS, mkSeq, false_and, and_false, eq_self_iff_true, not_true_eq_false, not_false_eq_true, decide_true, decide_false])
      rw [show (if (0 + (k : Int)) = 0 + (p : Int) then (1 : Int) else 0) = if k = p then 1 else 0 by split <;> split <;> omega]
      exact hR2
    (try simp only [G_law.s8, wpSs, wpS, wpE, wpA, wpC, wpT, wpTss, wpI, wpAnds, wpOrs, bindT, getS, setS, setsS, outS, slD, Pr.w, Pr.aw, pAdd, pInt, pMul, pCmp, pEq, pIsN, pLt, pLen, pAbs, pNeg, pInt1, pBool, pIsi, pIx, pSlc, pSl, pTupD, pLstD, pTupOf, pLstOf, pSum, pBs, pTwo, isNon, isIns, isTp, truth, items, ent, List.replicate, List.cons_append, List.nil_append, Rv.d, bodyP, at0, at1, at2, at3, at4, atm1, ixn1, ixn2, ixn3, set51, set52, set53, get51, D.int.injEq, D.bl.injEq, D.tup.injEq, D.lst.injEq, D.str.injEq, Sl.own.injEq, Sl.val.injEq, Rv.v.injEq, Rv.fr.injEq, Option.some.injEq, List.cons.injEq, exists_eq_left, exists_eq_left', exists_eq, exists_eq', exists_const, exists_and_left, true_and, and_true, true_implies, forall_const, Bool.false_eq_true, Bool.true_eq_false, false_implies, implies_true, decide_eq_true_eq, decide_eq_false_iff_not, Nat.reduceSub, Nat.reduceAdd, id_eq, List.length_cons, List.length_nil, List.length_append, reduceCtorEq, and_self, ite_true, ite_false, if_true, if_false, Bool.not_true, Bool.not_false, Bool.not_eq_true', Bool.not_eq_false', outP1, outP2, outP3, noOwn, wipeS, restS, mkSeq, false_and, and_false, eq_self_iff_true, not_true_eq_false, not_false_eq_true, decide_true, decide_false])
    refine ⟨un1 n p, _, rfl, .inr ?_, ?_, ?_⟩
    · rw [un1_range hp, ls, ← rng_ls]
    · rw [un1_range hp]; simp; omega
    · (try simp only [wpSs, wpS, wpE, wpA, wpC, wpT, wpTss, wpI, wpAnds, wpOrs, bindT, getS, setS, setsS, outS, slD, Pr.w, Pr.aw, pAdd, pInt, pMul, pCmp, pEq, pIsN, pLt, pLen, pAbs, pNeg, pInt1, pBool, pIsi, pIx, pSlc, pSl, pTupD, pLstD, pTupOf, pLstOf, pSum, pBs, pTwo, isNon, isIns, isTp, truth, items, ent, List.replicate, List.cons_append, List.nil_append, Rv.d, bodyP, at0, at1, at2, at3, at4, atm1, ixn1, ixn2, ixn3, set51, set52, set53, get51, D.int.injEq, D.bl.injEq, D.tup.injEq, D.lst.injEq, D.str.injEq, Sl.own.injEq, Sl.val.injEq, Rv.v.injEq, Rv.fr.injEq, Option.some.injEq, List.cons.injEq, exists_eq_left, exists_eq_left', exists_eq, exists_eq', exists_const, exists_and_left, true_and, and_true, true_implies, forall_const, Bool.false_eq_true, Bool.true_eq_false, false_implies, implies_true, decide_eq_true_eq, decide_eq_false_iff_not, Nat.reduceSub, Nat.reduceAdd, id_eq, List.length_cons, List.length_nil, List.length_append, reduceCtorEq, and_self, ite_true, ite_false, if_true, if_false, Bool.not_true, Bool.not_false, Bool.not_eq_true', Bool.not_eq_false', outP1, outP2, outP3, noOwn, wipeS, restS, mkSeq, false_and, and_false, eq_self_iff_true, not_true_eq_false, not_false_eq_true, decide_true, decide_false])
      exact hR _ ⟨fun x hx => hw x (List.mem_cons_of_mem _ hx), _, rfl⟩
  · unfold rngD at hx
    obtain ⟨k, hk, rfl⟩ := List.mem_map.mp hx
    exact ⟨k, rfl, List.mem_range.mp hk⟩
theorem t11 (hP : ∀ env, P.rt (.v (.bl true)) env) (hd : dO d) (N : Rows n as bs mo le ap ch) (hpairs : AllP (fun x => ∃ r s, x = .tup [rw' r, rw' s] ∧ Ok r ∧ Ok s ∧ r.length = s.length) pairs) :
    wpSs G_law law.b11 (env2 ns d n as bs mo le ap ch pairs [.un, .un, .un, .un, .un, .un, .un, .un, .un]) P := by
  have hn := N.hn
  (try subst hk_law_b11); unfold law.b11; obtain ⟨k_law_b11l0, hk_law_b11l0⟩ : ∃ k, k = law.b11l0 := ⟨_, rfl⟩; rw [← hk_law_b11l0]; obtain ⟨k_law_b12, hk_law_b12⟩ : ∃ k, k = law.b12 := ⟨_, rfl⟩; rw [← hk_law_b12]; simp only [wpSs, wpS, wpE, wpA, wpC, wpT, wpTss, wpI, wpAnds, wpOrs, bindT, getS, setS, setsS, outS, slD, Pr.w, Pr.aw, pAdd, pInt, pMul, pCmp, pEq, pIsN, pLt, pLen, pAbs, pNeg, pInt1, pBool, pIsi, pIx, pSlc, pSl, pTupD, pLstD, pTupOf, pLstOf, pSum, pBs, pTwo, isNon, isIns, isTp, truth, items, ent, List.replicate, List.cons_append, List.nil_append, Rv.d, bodyP, at0, at1, at2, at3, at4, atm1, ixn1, ixn2, ixn3, set51, set52, set53, get51, D.int.injEq, D.bl.injEq, D.tup.injEq, D.lst.injEq, D.str.injEq, Sl.own.injEq, Sl.val.injEq, Rv.v.injEq, Rv.fr.injEq, Option.some.injEq, List.cons.injEq, exists_eq_left, exists_eq_left', exists_eq, exists_eq', exists_const, exists_and_left, true_and, and_true, true_implies, forall_const, Bool.false_eq_true, Bool.true_eq_false, false_implies, implies_true, decide_eq_true_eq, decide_eq_false_iff_not, Nat.reduceSub, Nat.reduceAdd, id_eq, List.length_cons, List.length_nil, List.length_append, reduceCtorEq, and_self, ite_true, ite_false, if_true, if_false, Bool.not_true, Bool.not_false, Bool.not_eq_true', Bool.not_eq_false', outP1, outP2, outP3, noOwn, wipeS, restS, mkSeq, false_and, and_false, eq_self_iff_true, not_true_eq_false, not_false_eq_true, decide_true, decide_false]
  refine forL_of (fun rest env => AllP (fun x => ∃ r s, x = .tup [rw' r, rw' s] ∧ Ok r ∧ Ok s ∧ r.length = s.length) rest ∧ ∃ x, env = env2 ns d n as bs mo le ap ch pairs [x, .un, .un, .un, .un, .un, .un, .un, .un]) (fun env hi => ?_) (fun w rest env hi R hR => ?_) _ _ ⟨hpairs, _, rfl⟩
  · obtain ⟨-, x13, rfl⟩ := hi
    (try subst hk_law_b12); unfold law.b12; obtain ⟨k_law_b12l0, hk_law_b12l0⟩ : ∃ k, k = law.b12l0 := ⟨_, rfl⟩; rw [← hk_law_b12l0]; obtain ⟨k_law_b13, hk_law_b13⟩ : ∃ k, k = law.b13 := ⟨_, rfl⟩; rw [← hk_law_b13]; simp only [wpSs, wpS, wpE, wpA, wpC, wpT, wpTss, wpI, wpAnds, wpOrs, bindT, getS, setS, setsS, outS, slD, Pr.w, Pr.aw, pAdd, pInt, pMul, pCmp, pEq, pIsN, pLt, pLen, pAbs, pNeg, pInt1, pBool, pIsi, pIx, pSlc, pSl, pTupD, pLstD, pTupOf, pLstOf, pSum, pBs, pTwo, isNon, isIns, isTp, truth, items, ent, List.replicate, List.cons_append, List.nil_append, Rv.d, bodyP, at0, at1, at2, at3, at4, atm1, ixn1, ixn2, ixn3, set51, set52, set53, get51, D.int.injEq, D.bl.injEq, D.tup.injEq, D.lst.injEq, D.str.injEq, Sl.own.injEq, Sl.val.injEq, Rv.v.injEq, Rv.fr.injEq, Option.some.injEq, List.cons.injEq, exists_eq_left, exists_eq_left', exists_eq, exists_eq', exists_const, exists_and_left, true_and, and_true, true_implies, forall_const, Bool.false_eq_true, Bool.true_eq_false, false_implies, implies_true, decide_eq_true_eq, decide_eq_false_iff_not, Nat.reduceSub, Nat.reduceAdd, id_eq, List.length_cons, List.length_nil, List.length_append, reduceCtorEq, and_self, ite_true, ite_false, if_true, if_false, Bool.not_true, Bool.not_false, Bool.not_eq_true', Bool.not_eq_false', outP1, outP2, outP3, noOwn, wipeS, restS, mkSeq, false_and, and_false, eq_self_iff_true, not_true_eq_false, not_false_eq_true, decide_true, decide_false]
    refine ⟨by decide, ?_⟩
    refine forL_of (fun rest env => AllP (fun x => ∃ r, x = rw' r ∧ Ok r) rest ∧ ∃ d1 y z, dO d1 ∧ env = env2 ns d1 n as bs mo le ap ch pairs [x13, y, z, .un, .un, .un, .un, .un, .un]) (fun env hi => ?_) (fun w rest env hi R hR => ?_) _ _
      ⟨⟨⟨as, rfl, N.ha.ok (by omega) (by omega)⟩, ⟨bs, rfl, N.hb.ok (by omega) (by omega)⟩, ⟨le, rfl, N.he.ok (by omega) (by omega)⟩, ⟨ap, rfl, N.hp.ok (by omega) (by omega)⟩, ⟨zs n, rfl, zs_ok.ok (by omega) (by omega)⟩, trivial⟩, d, _, _, hd, rfl⟩
    · obtain ⟨-, d1, y, z, hd1, rfl⟩ := hi
      (try subst hk_law_b13); unfold law.b13; obtain ⟨k_law_b13t0, hk_law_b13t0⟩ : ∃ k, k = law.b13t0 := ⟨_, rfl⟩; rw [← hk_law_b13t0]; obtain ⟨k_law_b14, hk_law_b14⟩ : ∃ k, k = law.b14 := ⟨_, rfl⟩; rw [← hk_law_b14]; simp only [G_law.s8, G_law.s9, wpSs, wpS, wpE, wpA, wpC, wpT, wpTss, wpI, wpAnds, wpOrs, bindT, getS, setS, setsS, outS, slD, Pr.w, Pr.aw, pAdd, pInt, pMul, pCmp, pEq, pIsN, pLt, pLen, pAbs, pNeg, pInt1, pBool, pIsi, pIx, pSlc, pSl, pTupD, pLstD, pTupOf, pLstOf, pSum, pBs, pTwo, isNon, isIns, isTp, truth, items, ent, List.replicate, List.cons_append, List.nil_append, Rv.d, bodyP, at0, at1, at2, at3, at4, atm1, ixn1, ixn2, ixn3, set51, set52, set53, get51, D.int.injEq, D.bl.injEq, D.tup.injEq, D.lst.injEq, D.str.injEq, Sl.own.injEq, Sl.val.injEq, Rv.v.injEq, Rv.fr.injEq, Option.some.injEq, List.cons.injEq, exists_eq_left, exists_eq_left', exists_eq, exists_eq', exists_const, exists_and_left, true_and, and_true, true_implies, forall_const, Bool.false_eq_true, Bool.true_eq_false, false_implies, implies_true, decide_eq_true_eq, decide_eq_false_iff_not, Nat.reduceSub, Nat.reduceAdd, id_eq, List.length_cons, List.length_nil, List.length_append, reduceCtorEq, and_self, ite_true, ite_false, if_true, if_false, Bool.not_true, Bool.not_false, Bool.not_eq_true', Bool.not_eq_false', outP1, outP2, outP3, noOwn, wipeS, restS, mkSeq, false_and, and_false, eq_self_iff_true, not_true_eq_false, not_false_eq_true, decide_true, decide_false]
      refine ⟨n, rfl, by omega, ?_⟩
      (try simp only [G_law.s8, wpSs, wpS, wpE, wpA, wpC, wpT, wpTss, wpI, wpAnds, wpOrs, bindT, getS, setS, setsS, outS, slD, Pr.w, Pr.aw, pAdd, pInt, pMul, pCmp, pEq, pIsN, pLt, pLen, pAbs, pNeg, pInt1, pBool, pIsi, pIx, pSlc, pSl, pTupD, pLstD, pTupOf, pLstOf, pSum, pBs, pTwo, isNon, isIns, isTp, truth, items, ent, List.replicate, List.cons_append, List.nil_append, Rv.d, bodyP, at0, at1, at2, at3, at4, atm1, ixn1, ixn2, ixn3, set51, set52, set53, get51, D.int.injEq, D.bl.injEq, D.tup.injEq, D.lst.injEq, D.str.injEq, Sl.own.injEq, Sl.val.injEq, Rv.v.injEq, Rv.fr.injEq, Option.some.injEq, List.cons.injEq, exists_eq_left, exists_eq_left', exists_eq, exists_eq', exists_const, exists_and_left, true_and, and_true, true_implies, forall_const, Bool.false_eq_true, Bool.true_eq_false, false_implies, implies_true, decide_eq_true_eq, decide_eq_false_iff_not, Nat.reduceSub, Nat.reduceAdd, id_eq, List.length_cons, List.length_nil, List.length_append, reduceCtorEq, and_self, ite_true, ite_false, if_true, if_false, Bool.not_true, Bool.not_false, Bool.not_eq_true', Bool.not_eq_false', outP1, outP2, outP3, noOwn, wipeS, restS, mkSeq, false_and, and_false, eq_self_iff_true, not_true_eq_false, not_false_eq_true, decide_true, decide_false])
      refine ⟨zs n, _, rfl, .inl rfl, by rw [zs_ok.1]; omega, ?_⟩
      (try simp only [wpSs, wpS, wpE, wpA, wpC, wpT, wpTss, wpI, wpAnds, wpOrs, bindT, getS, setS, setsS, outS, slD, Pr.w, Pr.aw, pAdd, pInt, pMul, pCmp, pEq, pIsN, pLt, pLen, pAbs, pNeg, pInt1, pBool, pIsi, pIx, pSlc, pSl, pTupD, pLstD, pTupOf, pLstOf, pSum, pBs, pTwo, isNon, isIns, isTp, truth, items, ent, List.replicate, List.cons_append, List.nil_append, Rv.d, bodyP, at0, at1, at2, at3, at4, atm1, ixn1, ixn2, ixn3, set51, set52, set53, get51, D.int.injEq, D.bl.injEq, D.tup.injEq, D.lst.injEq, D.str.injEq, Sl.own.injEq, Sl.val.injEq, Rv.v.injEq, Rv.fr.injEq, Option.some.injEq, List.cons.injEq, exists_eq_left, exists_eq_left', exists_eq, exists_eq', exists_const, exists_and_left, true_and, and_true, true_implies, forall_const, Bool.false_eq_true, Bool.true_eq_false, false_implies, implies_true, decide_eq_true_eq, decide_eq_false_iff_not, Nat.reduceSub, Nat.reduceAdd, id_eq, List.length_cons, List.length_nil, List.length_append, reduceCtorEq, and_self, ite_true, ite_false, if_true, if_false, Bool.not_true, Bool.not_false, Bool.not_eq_true', Bool.not_eq_false', outP1, outP2, outP3, noOwn, wipeS, restS, mkSeq, false_and, and_false, eq_self_iff_true, not_true_eq_false, not_false_eq_true, decide_true, decide_false])
      subst hk_law_b14
      exact t14 hP hd1 N
    · obtain ⟨⟨⟨r, rfl, hr⟩, hrest⟩, d1, y, z, hd1, rfl⟩ := hi
      (try subst hk_law_b12l0); unfold law.b12l0; obtain ⟨k_law_b12l0l0, hk_law_b12l0l0⟩ : ∃ k, k = law.b12l0l0 := ⟨_, rfl⟩; rw [← hk_law_b12l0l0]; simp only [G_law.s1, G_law.s6, wpSs, wpS, wpE, wpA, wpC, wpT, wpTss, wpI, wpAnds, wpOrs, bindT, getS, setS, setsS, outS, slD, Pr.w, Pr.aw, pAdd, pInt, pMul, pCmp, pEq, pIsN, pLt, pLen, pAbs, pNeg, pInt1, pBool, pIsi, pIx, pSlc, pSl, pTupD, pLstD, pTupOf, pLstOf, pSum, pBs, pTwo, isNon, isIns, isTp, truth, items, ent, List.replicate, List.cons_append, List.nil_append, Rv.d, bodyP, at0, at1, at2, at3, at4, atm1, ixn1, ixn2, ixn3, set51, set52, set53, get51, D.int.injEq, D.bl.injEq, D.tup.injEq, D.lst.injEq, D.str.injEq, Sl.own.injEq, Sl.val.injEq, Rv.v.injEq, Rv.fr.injEq, Option.some.injEq, List.cons.injEq, exists_eq_left, exists_eq_left', exists_eq, exists_eq', exists_const, exists_and_left, true_and, and_true, true_implies, forall_const, Bool.false_eq_true, Bool.true_eq_false, false_implies, implies_true, decide_eq_true_eq, decide_eq_false_iff_not, Nat.reduceSub, Nat.reduceAdd, id_eq, List.length_cons, List.length_nil, List.length_append, reduceCtorEq, and_self, ite_true, ite_false, if_true, if_false, Bool.not_true, Bool.not_false, Bool.not_eq_true', Bool.not_eq_false', outP1, outP2, outP3, noOwn, wipeS, restS, mkSeq, false_and, and_false, eq_self_iff_true, not_true_eq_false, not_false_eq_true, decide_true, decide_false]
      refine ⟨d1, 9, rfl, hd1, by decide, by decide, fun d2 f h2 f0 f1 => ?_⟩
      (try simp only [G_law.s6, wpSs, wpS, wpE, wpA, wpC, wpT, wpTss, wpI, wpAnds, wpOrs, bindT, getS, setS, setsS, outS, slD, Pr.w, Pr.aw, pAdd, pInt, pMul, pCmp, pEq, pIsN, pLt, pLen, pAbs, pNeg, pInt1, pBool, pIsi, pIx, pSlc, pSl, pTupD, pLstD, pTupOf, pLstOf, pSum, pBs, pTwo, isNon, isIns, isTp, truth, items, ent, List.replicate, List.cons_append, List.nil_append, Rv.d, bodyP, at0, at1, at2, at3, at4, atm1, ixn1, ixn2, ixn3, set51, set52, set53, get51, D.int.injEq, D.bl.injEq, D.tup.injEq, D.lst.injEq, D.str.injEq, Sl.own.injEq, Sl.val.injEq, Rv.v.injEq, Rv.fr.injEq, Option.some.injEq, List.cons.injEq, exists_eq_left, exists_eq_left', exists_eq, exists_eq', exists_const, exists_and_left, true_and, and_true, true_implies, forall_const, Bool.false_eq_true, Bool.true_eq_false, false_implies, implies_true, decide_eq_true_eq, decide_eq_false_iff_not, Nat.reduceSub, Nat.reduceAdd, id_eq, List.length_cons, List.length_nil, List.length_append, reduceCtorEq, and_self, ite_true, ite_false, if_true, if_false, Bool.not_true, Bool.not_false, Bool.not_eq_true', Bool.not_eq_false', outP1, outP2, outP3, noOwn, wipeS, restS, mkSeq, false_and, and_false, eq_self_iff_true, not_true_eq_false, not_false_eq_true, decide_true, decide_false])
      refine ⟨d2, rfl, h2, fun d3 g h3 hg => ?_⟩
      (try simp only [wpSs, wpS, wpE, wpA, wpC, wpT, wpTss, wpI, wpAnds, wpOrs, bindT, getS, setS, setsS, outS, slD, Pr.w, Pr.aw, pAdd, pInt, pMul, pCmp, pEq, pIsN, pLt, pLen, pAbs, pNeg, pInt1, pBool, pIsi, pIx, pSlc, pSl, pTupD, pLstD, pTupOf, pLstOf, pSum, pBs, pTwo, isNon, isIns, isTp, truth, items, ent, List.replicate, List.cons_append, List.nil_append, Rv.d, bodyP, at0, at1, at2, at3, at4, atm1, ixn1, ixn2, ixn3, set51, set52, set53, get51, D.int.injEq, D.bl.injEq, D.tup.injEq, D.lst.injEq, D.str.injEq, Sl.own.injEq, Sl.val.injEq, Rv.v.injEq, Rv.fr.injEq, Option.some.injEq, List.cons.injEq, exists_eq_left, exists_eq_left', exists_eq, exists_eq', exists_const, exists_and_left, true_and, and_true, true_implies, forall_const, Bool.false_eq_true, Bool.true_eq_false, false_implies, implies_true, decide_eq_true_eq, decide_eq_false_iff_not, Nat.reduceSub, Nat.reduceAdd, id_eq, List.length_cons, List.length_nil, List.length_append, reduceCtorEq, and_self, ite_true, ite_false, if_true, if_false, Bool.not_true, Bool.not_false, Bool.not_eq_true', Bool.not_eq_false', outP1, outP2, outP3, noOwn, wipeS, restS, mkSeq, false_and, and_false, eq_self_iff_true, not_true_eq_false, not_false_eq_true, decide_true, decide_false])
      refine ⟨by decide, ?_⟩
      refine forL_of (fun rest env => AllP (fun x => ∃ m : Int, x = .int m ∧ Bt 200 m) rest ∧ ∃ z, env = env2 ns d3 n as bs mo le ap ch pairs [x13, .val (rw' r), z, .un, .un, .un, .un, .un, .un]) (fun env hi => ?_) (fun w2 rest env hi R2 hR2 => ?_) _ _
        ⟨⟨⟨0, rfl, by unfold Bt; decide⟩, ⟨1, rfl, by unfold Bt; decide⟩, ⟨0 - 1, rfl, by unfold Bt; decide⟩, ⟨_, rfl, (bt_small (by omega) (by omega)).mono (by omega)⟩, ⟨_, rfl, hg.mono (by omega)⟩, trivial⟩, _, rfl⟩
      · obtain ⟨-, z, rfl⟩ := hi
        exact hR _ ⟨hrest, d3, _, _, h3, rfl⟩
      · obtain ⟨⟨⟨m, rfl, hm⟩, hrest2⟩, z, rfl⟩ := hi
        (try subst hk_law_b12l0l0); unfold law.b12l0l0; obtain ⟨k_law_b12l0l0t0, hk_law_b12l0l0t0⟩ : ∃ k, k = law.b12l0l0t0 := ⟨_, rfl⟩; rw [← hk_law_b12l0l0t0]; simp only [G_law.s7, wpSs, wpS, wpE, wpA, wpC, wpT, wpTss, wpI, wpAnds, wpOrs, bindT, getS, setS, setsS, outS, slD, Pr.w, Pr.aw, pAdd, pInt, pMul, pCmp, pEq, pIsN, pLt, pLen, pAbs, pNeg, pInt1, pBool, pIsi, pIx, pSlc, pSl, pTupD, pLstD, pTupOf, pLstOf, pSum, pBs, pTwo, isNon, isIns, isTp, truth, items, ent, List.replicate, List.cons_append, List.nil_append, Rv.d, bodyP, at0, at1, at2, at3, at4, atm1, ixn1, ixn2, ixn3, set51, set52, set53, get51, D.int.injEq, D.bl.injEq, D.tup.injEq, D.lst.injEq, D.str.injEq, Sl.own.injEq, Sl.val.injEq, Rv.v.injEq, Rv.fr.injEq, Option.some.injEq, List.cons.injEq, exists_eq_left, exists_eq_left', exists_eq, exists_eq', exists_const, exists_and_left, true_and, and_true, true_implies, forall_const, Bool.false_eq_true, Bool.true_eq_false, false_implies, implies_true, decide_eq_true_eq, decide_eq_false_iff_not, Nat.reduceSub, Nat.reduceAdd, id_eq, List.length_cons, List.length_nil, List.length_append, reduceCtorEq, and_self, ite_true, ite_false, if_true, if_false, Bool.not_true, Bool.not_false, Bool.not_eq_true', Bool.not_eq_false', outP1, outP2, outP3, noOwn, wipeS, restS, mkSeq, false_and, and_false, eq_self_iff_true, not_true_eq_false, not_false_eq_true, decide_true, decide_false]
        refine ⟨r, m, rfl, hr, hm, ?_⟩
        (try simp only [wpSs, wpS, wpE, wpA, wpC, wpT, wpTss, wpI, wpAnds, wpOrs, bindT, getS, setS, setsS, outS, slD, Pr.w, Pr.aw, pAdd, pInt, pMul, pCmp, pEq, pIsN, pLt, pLen, pAbs, pNeg, pInt1, pBool, pIsi, pIx, pSlc, pSl, pTupD, pLstD, pTupOf, pLstOf, pSum, pBs, pTwo, isNon, isIns, isTp, truth, items, ent, List.replicate, List.cons_append, List.nil_append, Rv.d, bodyP, at0, at1, at2, at3, at4, atm1, ixn1, ixn2, ixn3, set51, set52, set53, get51, D.int.injEq, D.bl.injEq, D.tup.injEq, D.lst.injEq, D.str.injEq, Sl.own.injEq, Sl.val.injEq, Rv.v.injEq, Rv.fr.injEq, Option.some.injEq, List.cons.injEq, exists_eq_left, exists_eq_left', exists_eq, exists_eq', exists_const, exists_and_left, true_and, and_true, true_implies, forall_const, Bool.false_eq_true, Bool.true_eq_false, false_implies, implies_true, decide_eq_true_eq, decide_eq_false_iff_not, Nat.reduceSub, Nat.reduceAdd, id_eq, List.length_cons, List.length_nil, List.length_append, reduceCtorEq, and_self, ite_true, ite_false, if_true, if_false, Bool.not_true, Bool.not_false, Bool.not_eq_true', Bool.not_eq_false', outP1, outP2, outP3, noOwn, wipeS, restS, mkSeq, false_and, and_false, eq_self_iff_true, not_true_eq_false, not_false_eq_true, decide_true, decide_false])
        exact hR2 _ ⟨hrest2, _, rfl⟩
  · obtain ⟨⟨⟨r, s, rfl, hr, hs, hrs⟩, hrest⟩, x, rfl⟩ := hi
    (try subst hk_law_b11l0); unfold law.b11l0; obtain ⟨k_law_b11l0t0, hk_law_b11l0t0⟩ : ∃ k, k = law.b11l0t0 := ⟨_, rfl⟩; rw [← hk_law_b11l0t0]; simp only [G_law.s5, wpSs, wpS, wpE, wpA, wpC, wpT, wpTss, wpI, wpAnds, wpOrs, bindT, getS, setS, setsS, outS, slD, Pr.w, Pr.aw, pAdd, pInt, pMul, pCmp, pEq, pIsN, pLt, pLen, pAbs, pNeg, pInt1, pBool, pIsi, pIx, pSlc, pSl, pTupD, pLstD, pTupOf, pLstOf, pSum, pBs, pTwo, isNon, isIns, isTp, truth, items, ent, List.replicate, List.cons_append, List.nil_append, Rv.d, bodyP, at0, at1, at2, at3, at4, atm1, ixn1, ixn2, ixn3, set51, set52, set53, get51, D.int.injEq, D.bl.injEq, D.tup.injEq, D.lst.injEq, D.str.injEq, Sl.own.injEq, Sl.val.injEq, Rv.v.injEq, Rv.fr.injEq, Option.some.injEq, List.cons.injEq, exists_eq_left, exists_eq_left', exists_eq, exists_eq', exists_const, exists_and_left, true_and, and_true, true_implies, forall_const, Bool.false_eq_true, Bool.true_eq_false, false_implies, implies_true, decide_eq_true_eq, decide_eq_false_iff_not, Nat.reduceSub, Nat.reduceAdd, id_eq, List.length_cons, List.length_nil, List.length_append, reduceCtorEq, and_self, ite_true, ite_false, if_true, if_false, Bool.not_true, Bool.not_false, Bool.not_eq_true', Bool.not_eq_false', outP1, outP2, outP3, noOwn, wipeS, restS, mkSeq, false_and, and_false, eq_self_iff_true, not_true_eq_false, not_false_eq_true, decide_true, decide_false]
    refine ⟨r, s, rfl, hr, hs, hrs, ?_⟩
    (try simp only [wpSs, wpS, wpE, wpA, wpC, wpT, wpTss, wpI, wpAnds, wpOrs, bindT, getS, setS, setsS, outS, slD, Pr.w, Pr.aw, pAdd, pInt, pMul, pCmp, pEq, pIsN, pLt, pLen, pAbs, pNeg, pInt1, pBool, pIsi, pIx, pSlc, pSl, pTupD, pLstD, pTupOf, pLstOf, pSum, pBs, pTwo, isNon, isIns, isTp, truth, items, ent, List.replicate, List.cons_append, List.nil_append, Rv.d, bodyP, at0, at1, at2, at3, at4, atm1, ixn1, ixn2, ixn3, set51, set52, set53, get51, D.int.injEq, D.bl.injEq, D.tup.injEq, D.lst.injEq, D.str.injEq, Sl.own.injEq, Sl.val.injEq, Rv.v.injEq, Rv.fr.injEq, Option.some.injEq, List.cons.injEq, exists_eq_left, exists_eq_left', exists_eq, exists_eq', exists_const, exists_and_left, true_and, and_true, true_implies, forall_const, Bool.false_eq_true, Bool.true_eq_false, false_implies, implies_true, decide_eq_true_eq, decide_eq_false_iff_not, Nat.reduceSub, Nat.reduceAdd, id_eq, List.length_cons, List.length_nil, List.length_append, reduceCtorEq, and_self, ite_true, ite_false, if_true, if_false, Bool.not_true, Bool.not_false, Bool.not_eq_true', Bool.not_eq_false', outP1, outP2, outP3, noOwn, wipeS, restS, mkSeq, false_and, and_false, eq_self_iff_true, not_true_eq_false, not_false_eq_true, decide_true, decide_false])
    exact hR _ ⟨hrest, _, rfl⟩
end
end K02

set_option Elab.async false
set_option linter.all false
set_option maxRecDepth 100000
namespace K02
open PySem PySem.Spec L2 Pd
/-- the law's promise -/
def sp_law : DSp := spL 63
theorem rw_range {g : Nat → Int} {n : Nat} : D.tup ((List.range n).map fun k => D.int (g k)) = rw' ((List.range n).map g) := by rw [rw', rng_ls]
theorem w_law : ∀ ss Q E, ss.length = 1 → sp_law ss Q E → wpSs G_law law.b0 (ent ss 21) (bodyP ss Q E) := by
  rintro ss Q E - ⟨ns, rfl, hl, hq⟩
  (try subst hk_law_b0); unfold law.b0; obtain ⟨k_law_b1, hk_law_b1⟩ : ∃ k, k = law.b1 := ⟨_, rfl⟩; rw [← hk_law_b1]; simp only [G_law.s0, wpSs, wpS, wpE, wpA, wpC, wpT, wpTss, wpI, wpAnds, wpOrs, bindT, getS, setS, setsS, outS, slD, Pr.w, Pr.aw, pAdd, pInt, pMul, pCmp, pEq, pIsN, pLt, pLen, pAbs, pNeg, pInt1, pBool, pIsi, pIx, pSlc, pSl, pTupD, pLstD, pTupOf, pLstOf, pSum, pBs, pTwo, isNon, isIns, isTp, truth, items, ent, List.replicate, List.cons_append, List.nil_append, Rv.d, bodyP, at0, at1, at2, at3, at4, atm1, ixn1, ixn2, ixn3, set51, set52, set53, get51, D.int.injEq, D.bl.injEq, D.tup.injEq, D.lst.injEq, D.str.injEq, Sl.own.injEq, Sl.val.injEq, Rv.v.injEq, Rv.fr.injEq, Option.some.injEq, List.cons.injEq, exists_eq_left, exists_eq_left', exists_eq, exists_eq', exists_const, exists_and_left, true_and, and_true, true_implies, forall_const, Bool.false_eq_true, Bool.true_eq_false, false_implies, implies_true, decide_eq_true_eq, decide_eq_false_iff_not, Nat.reduceSub, Nat.reduceAdd, id_eq, List.length_cons, List.length_nil, List.length_append, reduceCtorEq, and_self, ite_true, ite_false, if_true, if_false, Bool.not_true, Bool.not_false, Bool.not_eq_true', Bool.not_eq_false', outP1, outP2, outP3, noOwn, wipeS, restS, mkSeq, false_and, and_false, eq_self_iff_true, not_true_eq_false, not_false_eq_true, decide_true, decide_false]
  refine ⟨ns, rfl, hl, ?_⟩
  (try simp only [wpSs, wpS, wpE, wpA, wpC, wpT, wpTss, wpI, wpAnds, wpOrs, bindT, getS, setS, setsS, outS, slD, Pr.w, Pr.aw, pAdd, pInt, pMul, pCmp, pEq, pIsN, pLt, pLen, pAbs, pNeg, pInt1, pBool, pIsi, pIx, pSlc, pSl, pTupD, pLstD, pTupOf, pLstOf, pSum, pBs, pTwo, isNon, isIns, isTp, truth, items, ent, List.replicate, List.cons_append, List.nil_append, Rv.d, bodyP, at0, at1, at2, at3, at4, atm1, ixn1, ixn2, ixn3, set51, set52, set53, get51, D.int.injEq, D.bl.injEq, D.tup.injEq, D.lst.injEq, D.str.injEq, Sl.own.injEq, Sl.val.injEq, Rv.v.injEq, Rv.fr.injEq, Option.some.injEq, List.cons.injEq, exists_eq_left, exists_eq_left', exists_eq, exists_eq', exists_const, exists_and_left, true_and, and_true, true_implies, forall_const, Bool.false_eq_true, Bool.true_eq_false, false_implies, implies_true, decide_eq_true_eq, decide_eq_false_iff_not, Nat.reduceSub, Nat.reduceAdd, id_eq, List.length_cons, List.length_nil, List.length_append, reduceCtorEq, and_self, ite_true, ite_false, if_true, if_false, Bool.not_true, Bool.not_false, Bool.not_eq_true', Bool.not_eq_false', outP1, outP2, outP3, noOwn, wipeS, restS, mkSeq, false_and, and_false, eq_self_iff_true, not_true_eq_false, not_false_eq_true, decide_true, decide_false])
  have hd0 : dO (dl ns 0 0 7) := ⟨ns, 0, 0, 7, rfl, by decide⟩
  (try subst hk_law_b1); unfold law.b1; obtain ⟨k_law_b2, hk_law_b2⟩ : ∃ k, k = law.b2 := ⟨_, rfl⟩; rw [← hk_law_b2]; simp only [G_law.s1, G_law.s2, wpSs, wpS, wpE, wpA, wpC, wpT, wpTss, wpI, wpAnds, wpOrs, bindT, getS, setS, setsS, outS, slD, Pr.w, Pr.aw, pAdd, pInt, pMul, pCmp, pEq, pIsN, pLt, pLen, pAbs, pNeg, pInt1, pBool, pIsi, pIx, pSlc, pSl, pTupD, pLstD, pTupOf, pLstOf, pSum, pBs, pTwo, isNon, isIns, isTp, truth, items, ent, List.replicate, List.cons_append, List.nil_append, Rv.d, bodyP, at0, at1, at2, at3, at4, atm1, ixn1, ixn2, ixn3, set51, set52, set53, get51, D.int.injEq, D.bl.injEq, D.tup.injEq, D.lst.injEq, D.str.injEq, Sl.own.injEq, Sl.val.injEq, Rv.v.injEq, Rv.fr.injEq, Option.some.injEq, List.cons.injEq, exists_eq_left, exists_eq_left', exists_eq, exists_eq', exists_const, exists_and_left, true_and, and_true, true_implies, forall_const, Bool.false_eq_true, Bool.true_eq_false, false_implies, implies_true, decide_eq_true_eq, decide_eq_false_iff_not, Nat.reduceSub, Nat.reduceAdd, id_eq, List.length_cons, List.length_nil, List.length_append, reduceCtorEq, and_self, ite_true, ite_false, if_true, if_false, Bool.not_true, Bool.not_false, Bool.not_eq_true', Bool.not_eq_false', outP1, outP2, outP3, noOwn, wipeS, restS, mkSeq, false_and, and_false, eq_self_iff_true, not_true_eq_false, not_false_eq_true, decide_true, decide_false]
  refine ⟨_, 8, rfl, hd0, by decide, by decide, fun d1 w h1 w0 w1 => ?_⟩
  (try simp only [G_law.s2, wpSs, wpS, wpE, wpA, wpC, wpT, wpTss, wpI, wpAnds, wpOrs, bindT, getS, setS, setsS, outS, slD, Pr.w, Pr.aw, pAdd, pInt, pMul, pCmp, pEq, pIsN, pLt, pLen, pAbs, pNeg, pInt1, pBool, pIsi, pIx, pSlc, pSl, pTupD, pLstD, pTupOf, pLstOf, pSum, pBs, pTwo, isNon, isIns, isTp, truth, items, ent, List.replicate, List.cons_append, List.nil_append, Rv.d, bodyP, at0, at1, at2, at3, at4, atm1, ixn1, ixn2, ixn3, set51, set52, set53, get51, D.int.injEq, D.bl.injEq, D.tup.injEq, D.lst.injEq, D.str.injEq, Sl.own.injEq, Sl.val.injEq, Rv.v.injEq, Rv.fr.injEq, Option.some.injEq, List.cons.injEq, exists_eq_left, exists_eq_left', exists_eq, exists_eq', exists_const, exists_and_left, true_and, and_true, true_implies, forall_const, Bool.false_eq_true, Bool.true_eq_false, false_implies, implies_true, decide_eq_true_eq, decide_eq_false_iff_not, Nat.reduceSub, Nat.reduceAdd, id_eq, List.length_cons, List.length_nil, List.length_append, reduceCtorEq, and_self, ite_true, ite_false, if_true, if_false, Bool.not_true, Bool.not_false, Bool.not_eq_true', Bool.not_eq_false', outP1, outP2, outP3, noOwn, wipeS, restS, mkSeq, false_and, and_false, eq_self_iff_true, not_true_eq_false, not_false_eq_true, decide_true, decide_false])
  refine ⟨d1, 12, rfl, h1, by decide, by decide, fun d2 b h2 => ?_⟩
  (try simp only [wpSs, wpS, wpE, wpA, wpC, wpT, wpTss, wpI, wpAnds, wpOrs, bindT, getS, setS, setsS, outS, slD, Pr.w, Pr.aw, pAdd, pInt, pMul, pCmp, pEq, pIsN, pLt, pLen, pAbs, pNeg, pInt1, pBool, pIsi, pIx, pSlc, pSl, pTupD, pLstD, pTupOf, pLstOf, pSum, pBs, pTwo, isNon, isIns, isTp, truth, items, ent, List.replicate, List.cons_append, List.nil_append, Rv.d, bodyP, at0, at1, at2, at3, at4, atm1, ixn1, ixn2, ixn3, set51, set52, set53, get51, D.int.injEq, D.bl.injEq, D.tup.injEq, D.lst.injEq, D.str.injEq, Sl.own.injEq, Sl.val.injEq, Rv.v.injEq, Rv.fr.injEq, Option.some.injEq, List.cons.injEq, exists_eq_left, exists_eq_left', exists_eq, exists_eq', exists_const, exists_and_left, true_and, and_true, true_implies, forall_const, Bool.false_eq_true, Bool.true_eq_false, false_implies, implies_true, decide_eq_true_eq, decide_eq_false_iff_not, Nat.reduceSub, Nat.reduceAdd, id_eq, List.length_cons, List.length_nil, List.length_append, reduceCtorEq, and_self, ite_true, ite_false, if_true, if_false, Bool.not_true, Bool.not_false, Bool.not_eq_true', Bool.not_eq_false', outP1, outP2, outP3, noOwn, wipeS, restS, mkSeq, false_and, and_false, eq_self_iff_true, not_true_eq_false, not_false_eq_true, decide_true, decide_false])
  refine ⟨mulOk_l (by decide), ?_⟩
  obtain ⟨n, hn, hnb⟩ : ∃ n : Nat, w + 20 * (if b = true then (1 : Int) else 0) = (n : Int) ∧ n ≤ 30 := by
    refine ⟨(w + 20 * (if b = true then (1 : Int) else 0)).toNat, ?_, ?_⟩
    · cases b <;> simp <;> omega
    · cases b <;> simp <;> omega
  rw [hn]
  (try subst hk_law_b2); unfold law.b2; obtain ⟨k_law_b3, hk_law_b3⟩ : ∃ k, k = law.b3 := ⟨_, rfl⟩; rw [← hk_law_b3]; simp only [G_law.s3, wpSs, wpS, wpE, wpA, wpC, wpT, wpTss, wpI, wpAnds, wpOrs, bindT, getS, setS, setsS, outS, slD, Pr.w, Pr.aw, pAdd, pInt, pMul, pCmp, pEq, pIsN, pLt, pLen, pAbs, pNeg, pInt1, pBool, pIsi, pIx, pSlc, pSl, pTupD, pLstD, pTupOf, pLstOf, pSum, pBs, pTwo, isNon, isIns, isTp, truth, items, ent, List.replicate, List.cons_append, List.nil_append, Rv.d, bodyP, at0, at1, at2, at3, at4, atm1, ixn1, ixn2, ixn3, set51, set52, set53, get51, D.int.injEq, D.bl.injEq, D.tup.injEq, D.lst.injEq, D.str.injEq, Sl.own.injEq, Sl.val.injEq, Rv.v.injEq, Rv.fr.injEq, Option.some.injEq, List.cons.injEq, exists_eq_left, exists_eq_left', exists_eq, exists_eq', exists_const, exists_and_left, true_and, and_true, true_implies, forall_const, Bool.false_eq_true, Bool.true_eq_false, false_implies, implies_true, decide_eq_true_eq, decide_eq_false_iff_not, Nat.reduceSub, Nat.reduceAdd, id_eq, List.length_cons, List.length_nil, List.length_append, reduceCtorEq, and_self, ite_true, ite_false, if_true, if_false, Bool.not_true, Bool.not_false, Bool.not_eq_true', Bool.not_eq_false', outP1, outP2, outP3, noOwn, wipeS, restS, mkSeq, false_and, and_false, eq_self_iff_true, not_true_eq_false, not_false_eq_true, decide_true, decide_false]
  refine ⟨d2, n, rfl, h2, by omega, fun d3 as bs h3 ha hb => ?_⟩
  (try simp only [wpSs, wpS, wpE, wpA, wpC, wpT, wpTss, wpI, wpAnds, wpOrs, bindT, getS, setS, setsS, outS, slD, Pr.w, Pr.aw, pAdd, pInt, pMul, pCmp, pEq, pIsN, pLt, pLen, pAbs, pNeg, pInt1, pBool, pIsi, pIx, pSlc, pSl, pTupD, pLstD, pTupOf, pLstOf, pSum, pBs, pTwo, isNon, isIns, isTp, truth, items, ent, List.replicate, List.cons_append, List.nil_append, Rv.d, bodyP, at0, at1, at2, at3, at4, atm1, ixn1, ixn2, ixn3, set51, set52, set53, get51, D.int.injEq, D.bl.injEq, D.tup.injEq, D.lst.injEq, D.str.injEq, Sl.own.injEq, Sl.val.injEq, Rv.v.injEq, Rv.fr.injEq, Option.some.injEq, List.cons.injEq, exists_eq_left, exists_eq_left', exists_eq, exists_eq', exists_const, exists_and_left, true_and, and_true, true_implies, forall_const, Bool.false_eq_true, Bool.true_eq_false, false_implies, implies_true, decide_eq_true_eq, decide_eq_false_iff_not, Nat.reduceSub, Nat.reduceAdd, id_eq, List.length_cons, List.length_nil, List.length_append, reduceCtorEq, and_self, ite_true, ite_false, if_true, if_false, Bool.not_true, Bool.not_false, Bool.not_eq_true', Bool.not_eq_false', outP1, outP2, outP3, noOwn, wipeS, restS, mkSeq, false_and, and_false, eq_self_iff_true, not_true_eq_false, not_false_eq_true, decide_true, decide_false])
  have ea : ∀ k, k < n → atI (as.map D.int) (0 + (k : Int)) = some (.int (as.getD k 0)) := fun k hk => at_row (by rw [ha.1]; exact hk)
  have eb : ∀ k, k < n → atI (bs.map D.int) (0 + (k : Int)) = some (.int (bs.getD k 0)) := fun k hk => at_row (by rw [hb.1]; exact hk)
  have ba : ∀ k, k < n → Bt 140 (as.getD k 0) := fun k hk => ha.2 _ (at_get (by rw [ha.1]; exact hk))
  have bb : ∀ k, k < n → Bt 140 (bs.getD k 0) := fun k hk => hb.2 _ (at_get (by rw [hb.1]; exact hk))
  (try subst hk_law_b3); unfold law.b3; obtain ⟨k_law_b4, hk_law_b4⟩ : ∃ k, k = law.b4 := ⟨_, rfl⟩; rw [← hk_law_b4]; simp only [wpSs, wpS, wpE, wpA, wpC, wpT, wpTss, wpI, wpAnds, wpOrs, bindT, getS, setS, setsS, outS, slD, Pr.w, Pr.aw, pAdd, pInt, pMul, pCmp, pEq, pIsN, pLt, pLen, pAbs, pNeg, pInt1, pBool, pIsi, pIx, pSlc, pSl, pTupD, pLstD, pTupOf, pLstOf, pSum, pBs, pTwo, isNon, isIns, isTp, truth, items, ent, List.replicate, List.cons_append, List.nil_append, Rv.d, bodyP, at0, at1, at2, at3, at4, atm1, ixn1, ixn2, ixn3, set51, set52, set53, get51, D.int.injEq, D.bl.injEq, D.tup.injEq, D.lst.injEq, D.str.injEq, Sl.own.injEq, Sl.val.injEq, Rv.v.injEq, Rv.fr.injEq, Option.some.injEq, List.cons.injEq, exists_eq_left, exists_eq_left', exists_eq, exists_eq', exists_const, exists_and_left, true_and, and_true, true_implies, forall_const, Bool.false_eq_true, Bool.true_eq_false, false_implies, implies_true, decide_eq_true_eq, decide_eq_false_iff_not, Nat.reduceSub, Nat.reduceAdd, id_eq, List.length_cons, List.length_nil, List.length_append, reduceCtorEq, and_self, ite_true, ite_false, if_true, if_false, Bool.not_true, Bool.not_false, Bool.not_eq_true', Bool.not_eq_false', outP1, outP2, outP3, noOwn, wipeS, restS, mkSeq, false_and, and_false, eq_self_iff_true, not_true_eq_false, not_false_eq_true, decide_true, decide_false]
  refine ⟨rgb (by omega), ?_⟩
  rw [show ((n : Int) - 0).toNat = n by omega]
  (try subst hk_law_b4); unfold law.b4; obtain ⟨k_law_b5, hk_law_b5⟩ : ∃ k, k = law.b5 := ⟨_, rfl⟩; rw [← hk_law_b5]; simp only [wpSs, wpS, wpE, wpA, wpC, wpT, wpTss, wpI, wpAnds, wpOrs, bindT, getS, setS, setsS, outS, slD, Pr.w, Pr.aw, pAdd, pInt, pMul, pCmp, pEq, pIsN, pLt, pLen, pAbs, pNeg, pInt1, pBool, pIsi, pIx, pSlc, pSl, pTupD, pLstD, pTupOf, pLstOf, pSum, pBs, pTwo, isNon, isIns, isTp, truth, items, ent, List.replicate, List.cons_append, List.nil_append, Rv.d, bodyP, at0, at1, at2, at3, at4, atm1, ixn1, ixn2, ixn3, set51, set52, set53, get51, D.int.injEq, D.bl.injEq, D.tup.injEq, D.lst.injEq, D.str.injEq, Sl.own.injEq, Sl.val.injEq, Rv.v.injEq, Rv.fr.injEq, Option.some.injEq, List.cons.injEq, exists_eq_left, exists_eq_left', exists_eq, exists_eq', exists_const, exists_and_left, true_and, and_true, true_implies, forall_const, Bool.false_eq_true, Bool.true_eq_false, false_implies, implies_true, decide_eq_true_eq, decide_eq_false_iff_not, Nat.reduceSub, Nat.reduceAdd, id_eq, List.length_cons, List.length_nil, List.length_append, reduceCtorEq, and_self, ite_true, ite_false, if_true, if_false, Bool.not_true, Bool.not_false, Bool.not_eq_true', Bool.not_eq_false', outP1, outP2, outP3, noOwn, wipeS, restS, mkSeq, false_and, and_false, eq_self_iff_true, not_true_eq_false, not_false_eq_true, decide_true, decide_false]
  refine comp_rng (fun k => .int (if bs.getD k 0 > as.getD k 0 then bs.getD k 0 else as.getD k 0)) n (by omega) (fun k hk R hR => ?_) ?_
  · (try simp only [rw', wpSs, wpS, wpE, wpA, wpC, wpT, wpTss, wpI, wpAnds, wpOrs, bindT, getS, setS, setsS, outS, slD, Pr.w, Pr.aw, pAdd, pInt, pMul, pCmp, pEq, pIsN, pLt, pLen, pAbs, pNeg, pInt1, pBool, pIsi, pIx, pSlc, pSl, pTupD, pLstD, pTupOf, pLstOf, pSum, pBs, pTwo, isNon, isIns, isTp, truth, items, ent, List.replicate, List.cons_append, List.nil_append, Rv.d, bodyP, at0, at1, at2, at3, at4, atm1, ixn1, ixn2, ixn3, set51, set52, set53, get51, D.int.injEq, D.bl.injEq, D.tup.injEq, D.lst.injEq, D.str.injEq, Sl.own.injEq, Sl.val.injEq, Rv.v.injEq, Rv.fr.injEq, Option.some.injEq, List.cons.injEq, exists_eq_left, exists_eq_left', exists_eq, exists_eq', exists_const, exists_and_left, true_and, and_true, true_implies, forall_const, Bool.false_eq_true, Bool.true_eq_false, false_implies, implies_true, decide_eq_true_eq, decide_eq_false_iff_not, Nat.reduceSub, Nat.reduceAdd, id_eq, List.length_cons, List.length_nil, List.length_append, reduceCtorEq, and_self, ite_true, ite_false, if_true, if_false, Bool.not_true, Bool.not_false, Bool.not_eq_true', Bool.not_eq_false', outP1, outP2, outP3, noOwn, wipeS, restS, mkSeq, false_and, and_false, eq_self_iff_true, not_true_eq_false, not_false_eq_true, decide_true, decide_false])
    refine ⟨_, ea k hk, _, eb k hk, ?_⟩
    (try simp only [wpSs, wpS, wpE, wpA, wpC, wpT, wpTss, wpI, wpAnds, wpOrs, bindT, getS, setS, setsS, outS, slD, Pr.w, Pr.aw, pAdd, pInt, pMul, pCmp, pEq, pIsN, pLt, pLen, pAbs, pNeg, pInt1, pBool, pIsi, pIx, pSlc, pSl, pTupD, pLstD, pTupOf, pLstOf, pSum, pBs, pTwo, isNon, isIns, isTp, truth, items, ent, List.replicate, List.cons_append, List.nil_append, Rv.d, bodyP, at0, at1, at2, at3, at4, atm1, ixn1, ixn2, ixn3, set51, set52, set53, get51, D.int.injEq, D.bl.injEq, D.tup.injEq, D.lst.injEq, D.str.injEq, Sl.own.injEq, Sl.val.injEq, Rv.v.injEq, Rv.fr.injEq, Option.some.injEq, List.cons.injEq, exists_eq_left, exists_eq_left', exists_eq, exists_eq', exists_const, exists_and_left, true_and, and_true, true_implies, forall_const, Bool.false_eq_true, Bool.true_eq_false, false_implies, implies_true, decide_eq_true_eq, decide_eq_false_iff_not, Nat.reduceSub, Nat.reduceAdd, id_eq, List.length_cons, List.length_nil, List.length_append, reduceCtorEq, and_self, ite_true, ite_false, if_true, if_false, Bool.not_true, Bool.not_false, Bool.not_eq_true', Bool.not_eq_false', outP1, outP2, outP3, noOwn, wipeS, restS, mkSeq, false_and, and_false, eq_self_iff_true, not_true_eq_false, not_false_eq_true, decide_true, decide_false])
    exact hR
  (try simp only [wpSs, wpS, wpE, wpA, wpC, wpT, wpTss, wpI, wpAnds, wpOrs, bindT, getS, setS, setsS, outS, slD, Pr.w, Pr.aw, pAdd, pInt, pMul, pCmp, pEq, pIsN, pLt, pLen, pAbs, pNeg, pInt1, pBool, pIsi, pIx, pSlc, pSl, pTupD, pLstD, pTupOf, pLstOf, pSum, pBs, pTwo, isNon, isIns, isTp, truth, items, ent, List.replicate, List.cons_append, List.nil_append, Rv.d, bodyP, at0, at1, at2, at3, at4, atm1, ixn1, ixn2, ixn3, set51, set52, set53, get51, D.int.injEq, D.bl.injEq, D.tup.injEq, D.lst.injEq, D.str.injEq, Sl.own.injEq, Sl.val.injEq, Rv.v.injEq, Rv.fr.injEq, Option.some.injEq, List.cons.injEq, exists_eq_left, exists_eq_left', exists_eq, exists_eq', exists_const, exists_and_left, true_and, and_true, true_implies, forall_const, Bool.false_eq_true, Bool.true_eq_false, false_implies, implies_true, decide_eq_true_eq, decide_eq_false_iff_not, Nat.reduceSub, Nat.reduceAdd, id_eq, List.length_cons, List.length_nil, List.length_append, reduceCtorEq, and_self, ite_true, ite_false, if_true, if_false, Bool.not_true, Bool.not_false, Bool.not_eq_true', Bool.not_eq_false', outP1, outP2, outP3, noOwn, wipeS, restS, mkSeq, false_and, and_false, eq_self_iff_true, not_true_eq_false, not_false_eq_true, decide_true, decide_false])
  rw [rw_range]
  have hm : OkB 140 n ((List.range n).map fun k => if bs.getD k 0 > as.getD k 0 then bs.getD k 0 else as.getD k 0) := rng_ok fun k hk => by
    split
    · exact bb k hk
    · exact ba k hk
  (try subst hk_law_b5); unfold law.b5; obtain ⟨k_law_b6, hk_law_b6⟩ : ∃ k, k = law.b6 := ⟨_, rfl⟩; rw [← hk_law_b6]; simp only [wpSs, wpS, wpE, wpA, wpC, wpT, wpTss, wpI, wpAnds, wpOrs, bindT, getS, setS, setsS, outS, slD, Pr.w, Pr.aw, pAdd, pInt, pMul, pCmp, pEq, pIsN, pLt, pLen, pAbs, pNeg, pInt1, pBool, pIsi, pIx, pSlc, pSl, pTupD, pLstD, pTupOf, pLstOf, pSum, pBs, pTwo, isNon, isIns, isTp, truth, items, ent, List.replicate, List.cons_append, List.nil_append, Rv.d, bodyP, at0, at1, at2, at3, at4, atm1, ixn1, ixn2, ixn3, set51, set52, set53, get51, D.int.injEq, D.bl.injEq, D.tup.injEq, D.lst.injEq, D.str.injEq, Sl.own.injEq, Sl.val.injEq, Rv.v.injEq, Rv.fr.injEq, Option.some.injEq, List.cons.injEq, exists_eq_left, exists_eq_left', exists_eq, exists_eq', exists_const, exists_and_left, true_and, and_true, true_implies, forall_const, Bool.false_eq_true, Bool.true_eq_false, false_implies, implies_true, decide_eq_true_eq, decide_eq_false_iff_not, Nat.reduceSub, Nat.reduceAdd, id_eq, List.length_cons, List.length_nil, List.length_append, reduceCtorEq, and_self, ite_true, ite_false, if_true, if_false, Bool.not_true, Bool.not_false, Bool.not_eq_true', Bool.not_eq_false', outP1, outP2, outP3, noOwn, wipeS, restS, mkSeq, false_and, and_false, eq_self_iff_true, not_true_eq_false, not_false_eq_true, decide_true, decide_false]
  refine comp_rng (fun k => .int (if bs.getD k 0 < as.getD k 0 then bs.getD k 0 else as.getD k 0)) n (by omega) (fun k hk R hR => ?_) ?_
  · (try simp only [rw', wpSs, wpS, wpE, wpA, wpC, wpT, wpTss, wpI, wpAnds, wpOrs, bindT, getS, setS, setsS, outS, slD, Pr.w, Pr.aw, pAdd, pInt, pMul, pCmp, pEq, pIsN, pLt, pLen, pAbs, pNeg, pInt1, pBool, pIsi, pIx, pSlc, pSl, pTupD, pLstD, pTupOf, pLstOf, pSum, pBs, pTwo, isNon, isIns, isTp, truth, items, ent, List.replicate, List.cons_append, List.nil_append, Rv.d, bodyP, at0, at1, at2, at3, at4, atm1, ixn1, ixn2, ixn3, set51, set52, set53, get51, D.int.injEq, D.bl.injEq, D.tup.injEq, D.lst.injEq, D.str.injEq, Sl.own.injEq, Sl.val.injEq, Rv.v.injEq, Rv.fr.injEq, Option.some.injEq, List.cons.injEq, exists_eq_left, exists_eq_left', exists_eq, exists_eq', exists_const, exists_and_left, true_and, and_true, true_implies, forall_const, Bool.false_eq_true, Bool.true_eq_false, false_implies, implies_true, decide_eq_true_eq, decide_eq_false_iff_not, Nat.reduceSub, Nat.reduceAdd, id_eq, List.length_cons, List.length_nil, List.length_append, reduceCtorEq, and_self, ite_true, ite_false, if_true, if_false, Bool.not_true, Bool.not_false, Bool.not_eq_true', Bool.not_eq_false', outP1, outP2, outP3, noOwn, wipeS, restS, mkSeq, false_and, and_false, eq_self_iff_true, not_true_eq_false, not_false_eq_true, decide_true, decide_false])
    refine ⟨_, ea k hk, _, eb k hk, ?_⟩
    (try simp only [wpSs, wpS, wpE, wpA, wpC, wpT, wpTss, wpI, wpAnds, wpOrs, bindT, getS, setS, setsS, outS, slD, Pr.w, Pr.aw, pAdd, pInt, pMul, pCmp, pEq, pIsN, pLt, pLen, pAbs, pNeg, pInt1, pBool, pIsi, pIx, pSlc, pSl, pTupD, pLstD, pTupOf, pLstOf, pSum, pBs, pTwo, isNon, isIns, isTp, truth, items, ent, List.replicate, List.cons_append, List.nil_append, Rv.d, bodyP, at0, at1, at2, at3, at4, atm1, ixn1, ixn2, ixn3, set51, set52, set53, get51, D.int.injEq, D.bl.injEq, D.tup.injEq, D.lst.injEq, D.str.injEq, Sl.own.injEq, Sl.val.injEq, Rv.v.injEq, Rv.fr.injEq, Option.some.injEq, List.cons.injEq, exists_eq_left, exists_eq_left', exists_eq, exists_eq', exists_const, exists_and_left, true_and, and_true, true_implies, forall_const, Bool.false_eq_true, Bool.true_eq_false, false_implies, implies_true, decide_eq_true_eq, decide_eq_false_iff_not, Nat.reduceSub, Nat.reduceAdd, id_eq, List.length_cons, List.length_nil, List.length_append, reduceCtorEq, and_self, ite_true, ite_false, if_true, if_false, Bool.not_true, Bool.not_false, Bool.not_eq_true', Bool.not_eq_false', outP1, outP2, outP3, noOwn, wipeS, restS, mkSeq, false_and, and_false, eq_self_iff_true, not_true_eq_false, not_false_eq_true, decide_true, decide_false])
    exact hR
  (try simp only [wpSs, wpS, wpE, wpA, wpC, wpT, wpTss, wpI, wpAnds, wpOrs, bindT, getS, setS, setsS, outS, slD, Pr.w, Pr.aw, pAdd, pInt, pMul, pCmp, pEq, pIsN, pLt, pLen, pAbs, pNeg, pInt1, pBool, pIsi, pIx, pSlc, pSl, pTupD, pLstD, pTupOf, pLstOf, pSum, pBs, pTwo, isNon, isIns, isTp, truth, items, ent, List.replicate, List.cons_append, List.nil_append, Rv.d, bodyP, at0, at1, at2, at3, at4, atm1, ixn1, ixn2, ixn3, set51, set52, set53, get51, D.int.injEq, D.bl.injEq, D.tup.injEq, D.lst.injEq, D.str.injEq, Sl.own.injEq, Sl.val.injEq, Rv.v.injEq, Rv.fr.injEq, Option.some.injEq, List.cons.injEq, exists_eq_left, exists_eq_left', exists_eq, exists_eq', exists_const, exists_and_left, true_and, and_true, true_implies, forall_const, Bool.false_eq_true, Bool.true_eq_false, false_implies, implies_true, decide_eq_true_eq, decide_eq_false_iff_not, Nat.reduceSub, Nat.reduceAdd, id_eq, List.length_cons, List.length_nil, List.length_append, reduceCtorEq, and_self, ite_true, ite_false, if_true, if_false, Bool.not_true, Bool.not_false, Bool.not_eq_true', Bool.not_eq_false', outP1, outP2, outP3, noOwn, wipeS, restS, mkSeq, false_and, and_false, eq_self_iff_true, not_true_eq_false, not_false_eq_true, decide_true, decide_false])
  rw [rw_range]
  have he : OkB 140 n ((List.range n).map fun k => if bs.getD k 0 < as.getD k 0 then bs.getD k 0 else as.getD k 0) := rng_ok fun k hk => by
    split
    · exact bb k hk
    · exact ba k hk
  (try subst hk_law_b6); unfold law.b6; obtain ⟨k_law_b7, hk_law_b7⟩ : ∃ k, k = law.b7 := ⟨_, rfl⟩; rw [← hk_law_b7]; simp only [wpSs, wpS, wpE, wpA, wpC, wpT, wpTss, wpI, wpAnds, wpOrs, bindT, getS, setS, setsS, outS, slD, Pr.w, Pr.aw, pAdd, pInt, pMul, pCmp, pEq, pIsN, pLt, pLen, pAbs, pNeg, pInt1, pBool, pIsi, pIx, pSlc, pSl, pTupD, pLstD, pTupOf, pLstOf, pSum, pBs, pTwo, isNon, isIns, isTp, truth, items, ent, List.replicate, List.cons_append, List.nil_append, Rv.d, bodyP, at0, at1, at2, at3, at4, atm1, ixn1, ixn2, ixn3, set51, set52, set53, get51, D.int.injEq, D.bl.injEq, D.tup.injEq, D.lst.injEq, D.str.injEq, Sl.own.injEq, Sl.val.injEq, Rv.v.injEq, Rv.fr.injEq, Option.some.injEq, List.cons.injEq, exists_eq_left, exists_eq_left', exists_eq, exists_eq', exists_const, exists_and_left, true_and, and_true, true_implies, forall_const, Bool.false_eq_true, Bool.true_eq_false, false_implies, implies_true, decide_eq_true_eq, decide_eq_false_iff_not, Nat.reduceSub, Nat.reduceAdd, id_eq, List.length_cons, List.length_nil, List.length_append, reduceCtorEq, and_self, ite_true, ite_false, if_true, if_false, Bool.not_true, Bool.not_false, Bool.not_eq_true', Bool.not_eq_false', outP1, outP2, outP3, noOwn, wipeS, restS, mkSeq, false_and, and_false, eq_self_iff_true, not_true_eq_false, not_false_eq_true, decide_true, decide_false]
  refine comp_rng (fun k => .int ((1 + (0 + (k : Int))) * if decide (as.getD k 0 ≤ 0) = true then 1 else 0)) n (by omega) (fun k hk R hR => ?_) ?_
  · (try simp only [rw', wpSs, wpS, wpE, wpA, wpC, wpT, wpTss, wpI, wpAnds, wpOrs, bindT, getS, setS, setsS, outS, slD, Pr.w, Pr.aw, pAdd, pInt, pMul, pCmp, pEq, pIsN, pLt, pLen, pAbs, pNeg, pInt1, pBool, pIsi, pIx, pSlc, pSl, pTupD, pLstD, pTupOf, pLstOf, pSum, pBs, pTwo, isNon, isIns, isTp, truth, items, ent, List.replicate, List.cons_append, List.nil_append, Rv.d, bodyP, at0, at1, at2, at3, at4, atm1, ixn1, ixn2, ixn3, set51, set52, set53, get51, D.int.injEq, D.bl.injEq, D.tup.injEq, D.lst.injEq, D.str.injEq, Sl.own.injEq, Sl.val.injEq, Rv.v.injEq, Rv.fr.injEq, Option.some.injEq, List.cons.injEq, exists_eq_left, exists_eq_left', exists_eq, exists_eq', exists_const, exists_and_left, true_and, and_true, true_implies, forall_const, Bool.false_eq_true, Bool.true_eq_false, false_implies, implies_true, decide_eq_true_eq, decide_eq_false_iff_not, Nat.reduceSub, Nat.reduceAdd, id_eq, List.length_cons, List.length_nil, List.length_append, reduceCtorEq, and_self, ite_true, ite_false, if_true, if_false, Bool.not_true, Bool.not_false, Bool.not_eq_true', Bool.not_eq_false', outP1, outP2, outP3, noOwn, wipeS, restS, mkSeq, false_and, and_false, eq_self_iff_true, not_true_eq_false, not_false_eq_true, decide_true, decide_false])
    refine ⟨_, ea k hk, ?_⟩
    (try simp only [wpSs, wpS, wpE, wpA, wpC, wpT, wpTss, wpI, wpAnds, wpOrs, bindT, getS, setS, setsS, outS, slD, Pr.w, Pr.aw, pAdd, pInt, pMul, pCmp, pEq, pIsN, pLt, pLen, pAbs, pNeg, pInt1, pBool, pIsi, pIx, pSlc, pSl, pTupD, pLstD, pTupOf, pLstOf, pSum, pBs, pTwo, isNon, isIns, isTp, truth, items, ent, List.replicate, List.cons_append, List.nil_append, Rv.d, bodyP, at0, at1, at2, at3, at4, atm1, ixn1, ixn2, ixn3, set51, set52, set53, get51, D.int.injEq, D.bl.injEq, D.tup.injEq, D.lst.injEq, D.str.injEq, Sl.own.injEq, Sl.val.injEq, Rv.v.injEq, Rv.fr.injEq, Option.some.injEq, List.cons.injEq, exists_eq_left, exists_eq_left', exists_eq, exists_eq', exists_const, exists_and_left, true_and, and_true, true_implies, forall_const, Bool.false_eq_true, Bool.true_eq_false, false_implies, implies_true, decide_eq_true_eq, decide_eq_false_iff_not, Nat.reduceSub, Nat.reduceAdd, id_eq, List.length_cons, List.length_nil, List.length_append, reduceCtorEq, and_self, ite_true, ite_false, if_true, if_false, Bool.not_true, Bool.not_false, Bool.not_eq_true', Bool.not_eq_false', outP1, outP2, outP3, noOwn, wipeS, restS, mkSeq, false_and, and_false, eq_self_iff_true, not_true_eq_false, not_false_eq_true, decide_true, decide_false])
    simp only [decide_eq_true_eq] at hR
    refine ⟨mulOk_l ⟨by omega, by omega⟩, hR⟩
  (try simp only [wpSs, wpS, wpE, wpA, wpC, wpT, wpTss, wpI, wpAnds, wpOrs, bindT, getS, setS, setsS, outS, slD, Pr.w, Pr.aw, pAdd, pInt, pMul, pCmp, pEq, pIsN, pLt, pLen, pAbs, pNeg, pInt1, pBool, pIsi, pIx, pSlc, pSl, pTupD, pLstD, pTupOf, pLstOf, pSum, pBs, pTwo, isNon, isIns, isTp, truth, items, ent, List.replicate, List.cons_append, List.nil_append, Rv.d, bodyP, at0, at1, at2, at3, at4, atm1, ixn1, ixn2, ixn3, set51, set52, set53, get51, D.int.injEq, D.bl.injEq, D.tup.injEq, D.lst.injEq, D.str.injEq, Sl.own.injEq, Sl.val.injEq, Rv.v.injEq, Rv.fr.injEq, Option.some.injEq, List.cons.injEq, exists_eq_left, exists_eq_left', exists_eq, exists_eq', exists_const, exists_and_left, true_and, and_true, true_implies, forall_const, Bool.false_eq_true, Bool.true_eq_false, false_implies, implies_true, decide_eq_true_eq, decide_eq_false_iff_not, Nat.reduceSub, Nat.reduceAdd, id_eq, List.length_cons, List.length_nil, List.length_append, reduceCtorEq, and_self, ite_true, ite_false, if_true, if_false, Bool.not_true, Bool.not_false, Bool.not_eq_true', Bool.not_eq_false', outP1, outP2, outP3, noOwn, wipeS, restS, mkSeq, false_and, and_false, eq_self_iff_true, not_true_eq_false, not_false_eq_true, decide_true, decide_false])
  have hp : OkB 140 n ((List.range n).map fun (k : Nat) => (1 + (0 + (k : Int))) * if as.getD k 0 ≤ 0 then 1 else 0) := rng_ok fun k hk => by
    split
    · rw [Int.mul_one]
      refine Bt.mono (n := 10) ?_ (by omega)
      unfold Bt
      omega
    · rw [Int.mul_zero]
      unfold Bt; decide
  rw [rw_range]
  (try subst hk_law_b7); unfold law.b7; obtain ⟨k_law_b8, hk_law_b8⟩ : ∃ k, k = law.b8 := ⟨_, rfl⟩; rw [← hk_law_b8]; simp only [G_law.s4, wpSs, wpS, wpE, wpA, wpC, wpT, wpTss, wpI, wpAnds, wpOrs, bindT, getS, setS, setsS, outS, slD, Pr.w, Pr.aw, pAdd, pInt, pMul, pCmp, pEq, pIsN, pLt, pLen, pAbs, pNeg, pInt1, pBool, pIsi, pIx, pSlc, pSl, pTupD, pLstD, pTupOf, pLstOf, pSum, pBs, pTwo, isNon, isIns, isTp, truth, items, ent, List.replicate, List.cons_append, List.nil_append, Rv.d, bodyP, at0, at1, at2, at3, at4, atm1, ixn1, ixn2, ixn3, set51, set52, set53, get51, D.int.injEq, D.bl.injEq, D.tup.injEq, D.lst.injEq, D.str.injEq, Sl.own.injEq, Sl.val.injEq, Rv.v.injEq, Rv.fr.injEq, Option.some.injEq, List.cons.injEq, exists_eq_left, exists_eq_left', exists_eq, exists_eq', exists_const, exists_and_left, true_and, and_true, true_implies, forall_const, Bool.false_eq_true, Bool.true_eq_false, false_implies, implies_true, decide_eq_true_eq, decide_eq_false_iff_not, Nat.reduceSub, Nat.reduceAdd, id_eq, List.length_cons, List.length_nil, List.length_append, reduceCtorEq, and_self, ite_true, ite_false, if_true, if_false, Bool.not_true, Bool.not_false, Bool.not_eq_true', Bool.not_eq_false', outP1, outP2, outP3, noOwn, wipeS, restS, mkSeq, false_and, and_false, eq_self_iff_true, not_true_eq_false, not_false_eq_true, decide_true, decide_false]
  refine ⟨d3, 140, n, as, rfl, h3, ha, by omega, fun d4 ch h4 hc => ?_⟩
  (try simp only [wpSs, wpS, wpE, wpA, wpC, wpT, wpTss, wpI, wpAnds, wpOrs, bindT, getS, setS, setsS, outS, slD, Pr.w, Pr.aw, pAdd, pInt, pMul, pCmp, pEq, pIsN, pLt, pLen, pAbs, pNeg, pInt1, pBool, pIsi, pIx, pSlc, pSl, pTupD, pLstD, pTupOf, pLstOf, pSum, pBs, pTwo, isNon, isIns, isTp, truth, items, ent, List.replicate, List.cons_append, List.nil_append, Rv.d, bodyP, at0, at1, at2, at3, at4, atm1, ixn1, ixn2, ixn3, set51, set52, set53, get51, D.int.injEq, D.bl.injEq, D.tup.injEq, D.lst.injEq, D.str.injEq, Sl.own.injEq, Sl.val.injEq, Rv.v.injEq, Rv.fr.injEq, Option.some.injEq, List.cons.injEq, exists_eq_left, exists_eq_left', exists_eq, exists_eq', exists_const, exists_and_left, true_and, and_true, true_implies, forall_const, Bool.false_eq_true, Bool.true_eq_false, false_implies, implies_true, decide_eq_true_eq, decide_eq_false_iff_not, Nat.reduceSub, Nat.reduceAdd, id_eq, List.length_cons, List.length_nil, List.length_append, reduceCtorEq, and_self, ite_true, ite_false, if_true, if_false, Bool.not_true, Bool.not_false, Bool.not_eq_true', Bool.not_eq_false', outP1, outP2, outP3, noOwn, wipeS, restS, mkSeq, false_and, and_false, eq_self_iff_true, not_true_eq_false, not_false_eq_true, decide_true, decide_false])
  (try subst hk_law_b8); unfold law.b8; obtain ⟨k_law_b9, hk_law_b9⟩ : ∃ k, k = law.b9 := ⟨_, rfl⟩; rw [← hk_law_b9]; simp only [wpSs, wpS, wpE, wpA, wpC, wpT, wpTss, wpI, wpAnds, wpOrs, bindT, getS, setS, setsS, outS, slD, Pr.w, Pr.aw, pAdd, pInt, pMul, pCmp, pEq, pIsN, pLt, pLen, pAbs, pNeg, pInt1, pBool, pIsi, pIx, pSlc, pSl, pTupD, pLstD, pTupOf, pLstOf, pSum, pBs, pTwo, isNon, isIns, isTp, truth, items, ent, List.replicate, List.cons_append, List.nil_append, Rv.d, bodyP, at0, at1, at2, at3, at4, atm1, ixn1, ixn2, ixn3, set51, set52, set53, get51, D.int.injEq, D.bl.injEq, D.tup.injEq, D.lst.injEq, D.str.injEq, Sl.own.injEq, Sl.val.injEq, Rv.v.injEq, Rv.fr.injEq, Option.some.injEq, List.cons.injEq, exists_eq_left, exists_eq_left', exists_eq, exists_eq', exists_const, exists_and_left, true_and, and_true, true_implies, forall_const, Bool.false_eq_true, Bool.true_eq_false, false_implies, implies_true, decide_eq_true_eq, decide_eq_false_iff_not, Nat.reduceSub, Nat.reduceAdd, id_eq, List.length_cons, List.length_nil, List.length_append, reduceCtorEq, and_self, ite_true, ite_false, if_true, if_false, Bool.not_true, Bool.not_false, Bool.not_eq_true', Bool.not_eq_false', outP1, outP2, outP3, noOwn, wipeS, restS, mkSeq, false_and, and_false, eq_self_iff_true, not_true_eq_false, not_false_eq_true, decide_true, decide_false]
  refine comp_rng (fun k => .int 0) n (by omega) (fun k hk R hR => ?_) ?_
  · (try simp only [wpSs, wpS, wpE, wpA, wpC, wpT, wpTss, wpI, wpAnds, wpOrs, bindT, getS, setS, setsS, outS, slD, Pr.w, Pr.aw, pAdd, pInt, pMul, pCmp, pEq, pIsN, pLt, pLen, pAbs, pNeg, pInt1, pBool, pIsi, pIx, pSlc, pSl, pTupD, pLstD, pTupOf, pLstOf, pSum, pBs, pTwo, isNon, isIns, isTp, truth, items, ent, List.replicate, List.cons_append, List.nil_append, Rv.d, bodyP, at0, at1, at2, at3, at4, atm1, ixn1, ixn2, ixn3, set51, set52, set53, get51, D.int.injEq, D.bl.injEq, D.tup.injEq, D.lst.injEq, D.str.injEq, Sl.own.injEq, Sl.val.injEq, Rv.v.injEq, Rv.fr.injEq, Option.some.injEq, List.cons.injEq, exists_eq_left, exists_eq_left', exists_eq, exists_eq', exists_const, exists_and_left, true_and, and_true, true_implies, forall_const, Bool.false_eq_true, Bool.true_eq_false, false_implies, implies_true, decide_eq_true_eq, decide_eq_false_iff_not, Nat.reduceSub, Nat.reduceAdd, id_eq, List.length_cons, List.length_nil, List.length_append, reduceCtorEq, and_self, ite_true, ite_false, if_true, if_false, Bool.not_true, Bool.not_false, Bool.not_eq_true', Bool.not_eq_false', outP1, outP2, outP3, noOwn, wipeS, restS, mkSeq, false_and, and_false, eq_self_iff_true, not_true_eq_false, not_false_eq_true, decide_true, decide_false])
    exact hR
  (try simp only [wpSs, wpS, wpE, wpA, wpC, wpT, wpTss, wpI, wpAnds, wpOrs, bindT, getS, setS, setsS, outS, slD, Pr.w, Pr.aw, pAdd, pInt, pMul, pCmp, pEq, pIsN, pLt, pLen, pAbs, pNeg, pInt1, pBool, pIsi, pIx, pSlc, pSl, pTupD, pLstD, pTupOf, pLstOf, pSum, pBs, pTwo, isNon, isIns, isTp, truth, items, ent, List.replicate, List.cons_append, List.nil_append, Rv.d, bodyP, at0, at1, at2, at3, at4, atm1, ixn1, ixn2, ixn3, set51, set52, set53, get51, D.int.injEq, D.bl.injEq, D.tup.injEq, D.lst.injEq, D.str.injEq, Sl.own.injEq, Sl.val.injEq, Rv.v.injEq, Rv.fr.injEq, Option.some.injEq, List.cons.injEq, exists_eq_left, exists_eq_left', exists_eq, exists_eq', exists_const, exists_and_left, true_and, and_true, true_implies, forall_const, Bool.false_eq_true, Bool.true_eq_false, false_implies, implies_true, decide_eq_true_eq, decide_eq_false_iff_not, Nat.reduceSub, Nat.reduceAdd, id_eq, List.length_cons, List.length_nil, List.length_append, reduceCtorEq, and_self, ite_true, ite_false, if_true, if_false, Bool.not_true, Bool.not_false, Bool.not_eq_true', Bool.not_eq_false', outP1, outP2, outP3, noOwn, wipeS, restS, mkSeq, false_and, and_false, eq_self_iff_true, not_true_eq_false, not_false_eq_true, decide_true, decide_false])
  rw [show D.tup ((List.range n).map fun _ => D.int 0) = rw' (zs n) by rw [rw', List.map_const', List.length_range, zs_map]]
  have oa := ha.ok (by omega : n ≤ 40)
  have ob := hb.ok (by omega : n ≤ 40)
  have om := hm.ok (by omega) (by omega : n ≤ 40)
  have oe := he.ok (by omega) (by omega : n ≤ 40)
  have op := hp.ok (by omega) (by omega : n ≤ 40)
  have oc := hc.ok (by omega) (by omega : n ≤ 40)
  have oz : Ok (zs n) := zs_ok.ok (by omega) (by omega)
  (try subst hk_law_b9); unfold law.b9; obtain ⟨k_law_b10, hk_law_b10⟩ : ∃ k, k = law.b10 := ⟨_, rfl⟩; rw [← hk_law_b10]; simp only [wpSs, wpS, wpE, wpA, wpC, wpT, wpTss, wpI, wpAnds, wpOrs, bindT, getS, setS, setsS, outS, slD, Pr.w, Pr.aw, pAdd, pInt, pMul, pCmp, pEq, pIsN, pLt, pLen, pAbs, pNeg, pInt1, pBool, pIsi, pIx, pSlc, pSl, pTupD, pLstD, pTupOf, pLstOf, pSum, pBs, pTwo, isNon, isIns, isTp, truth, items, ent, List.replicate, List.cons_append, List.nil_append, Rv.d, bodyP, at0, at1, at2, at3, at4, atm1, ixn1, ixn2, ixn3, set51, set52, set53, get51, D.int.injEq, D.bl.injEq, D.tup.injEq, D.lst.injEq, D.str.injEq, Sl.own.injEq, Sl.val.injEq, Rv.v.injEq, Rv.fr.injEq, Option.some.injEq, List.cons.injEq, exists_eq_left, exists_eq_left', exists_eq, exists_eq', exists_const, exists_and_left, true_and, and_true, true_implies, forall_const, Bool.false_eq_true, Bool.true_eq_false, false_implies, implies_true, decide_eq_true_eq, decide_eq_false_iff_not, Nat.reduceSub, Nat.reduceAdd, id_eq, List.length_cons, List.length_nil, List.length_append, reduceCtorEq, and_self, ite_true, ite_false, if_true, if_false, Bool.not_true, Bool.not_false, Bool.not_eq_true', Bool.not_eq_false', outP1, outP2, outP3, noOwn, wipeS, restS, mkSeq, false_and, and_false, eq_self_iff_true, not_true_eq_false, not_false_eq_true, decide_true, decide_false]
  repeat refine ⟨by decide, ?_⟩
  (try subst hk_law_b10); unfold law.b10; obtain ⟨k_law_b11, hk_law_b11⟩ : ∃ k, k = law.b11 := ⟨_, rfl⟩; rw [← hk_law_b11]; simp only [G_law.s4, wpSs, wpS, wpE, wpA, wpC, wpT, wpTss, wpI, wpAnds, wpOrs, bindT, getS, setS, setsS, outS, slD, Pr.w, Pr.aw, pAdd, pInt, pMul, pCmp, pEq, pIsN, pLt, pLen, pAbs, pNeg, pInt1, pBool, pIsi, pIx, pSlc, pSl, pTupD, pLstD, pTupOf, pLstOf, pSum, pBs, pTwo, isNon, isIns, isTp, truth, items, ent, List.replicate, List.cons_append, List.nil_append, Rv.d, bodyP, at0, at1, at2, at3, at4, atm1, ixn1, ixn2, ixn3, set51, set52, set53, get51, D.int.injEq, D.bl.injEq, D.tup.injEq, D.lst.injEq, D.str.injEq, Sl.own.injEq, Sl.val.injEq, Rv.v.injEq, Rv.fr.injEq, Option.some.injEq, List.cons.injEq, exists_eq_left, exists_eq_left', exists_eq, exists_eq', exists_const, exists_and_left, true_and, and_true, true_implies, forall_const, Bool.false_eq_true, Bool.true_eq_false, false_implies, implies_true, decide_eq_true_eq, decide_eq_false_iff_not, Nat.reduceSub, Nat.reduceAdd, id_eq, List.length_cons, List.length_nil, List.length_append, reduceCtorEq, and_self, ite_true, ite_false, if_true, if_false, Bool.not_true, Bool.not_false, Bool.not_eq_true', Bool.not_eq_false', outP1, outP2, outP3, noOwn, wipeS, restS, mkSeq, false_and, and_false, eq_self_iff_true, not_true_eq_false, not_false_eq_true, decide_true, decide_false]
  repeat refine ⟨by decide, ?_⟩
  refine ⟨d4, 140, n, _, rfl, h4, hp, by omega, fun d5 cp h5 hcp => ?_⟩
  (try simp only [wpSs, wpS, wpE, wpA, wpC, wpT, wpTss, wpI, wpAnds, wpOrs, bindT, getS, setS, setsS, outS, slD, Pr.w, Pr.aw, pAdd, pInt, pMul, pCmp, pEq, pIsN, pLt, pLen, pAbs, pNeg, pInt1, pBool, pIsi, pIx, pSlc, pSl, pTupD, pLstD, pTupOf, pLstOf, pSum, pBs, pTwo, isNon, isIns, isTp, truth, items, ent, List.replicate, List.cons_append, List.nil_append, Rv.d, bodyP, at0, at1, at2, at3, at4, atm1, ixn1, ixn2, ixn3, set51, set52, set53, get51, D.int.injEq, D.bl.injEq, D.tup.injEq, D.lst.injEq, D.str.injEq, Sl.own.injEq, Sl.val.injEq, Rv.v.injEq, Rv.fr.injEq, Option.some.injEq, List.cons.injEq, exists_eq_left, exists_eq_left', exists_eq, exists_eq', exists_const, exists_and_left, true_and, and_true, true_implies, forall_const, Bool.false_eq_true, Bool.true_eq_false, false_implies, implies_true, decide_eq_true_eq, decide_eq_false_iff_not, Nat.reduceSub, Nat.reduceAdd, id_eq, List.length_cons, List.length_nil, List.length_append, reduceCtorEq, and_self, ite_true, ite_false, if_true, if_false, Bool.not_true, Bool.not_false, Bool.not_eq_true', Bool.not_eq_false', outP1, outP2, outP3, noOwn, wipeS, restS, mkSeq, false_and, and_false, eq_self_iff_true, not_true_eq_false, not_false_eq_true, decide_true, decide_false])
  repeat refine ⟨by decide, ?_⟩
  subst hk_law_b11
  refine t11 (fun _ => hq) h5 ⟨hnb, ha, hb, hm, he, hp, hc⟩ ?_
  have ocp := hcp.ok (by omega) (by omega : n ≤ 40)
  exact ⟨⟨_, _, rfl, oa, ob, by rw [ha.1, hb.1]⟩, ⟨_, _, rfl, ob, oa, by rw [ha.1, hb.1]⟩, ⟨_, _, rfl, oa, oa, rfl⟩, ⟨_, _, rfl, oa, om, by rw [ha.1, hm.1]⟩, ⟨_, _, rfl, oe, ob, by rw [he.1, hb.1]⟩, ⟨_, _, rfl, oa, op, by rw [ha.1, hp.1]⟩, ⟨_, _, rfl, op, oa, by rw [ha.1, hp.1]⟩,
    ⟨_, _, rfl, oa, oc, by rw [ha.1, hc.1]⟩, ⟨_, _, rfl, oc, oa, by rw [ha.1, hc.1]⟩, ⟨_, _, rfl, op, ocp, by rw [hp.1, hcp.1]⟩, ⟨_, _, rfl, oz, oa, by rw [ha.1, zs_ok.1]⟩, trivial⟩
end K02

set_option Elab.async false
set_option linter.all false
set_option maxRecDepth 100000
namespace K02
open PySem PySem.Spec L2 Pd
def topS (i : Nat) : Stmt := PySem.Challenge.pw_shelfmill_k02_rows.main.body.getD i (.Pass ⟨0, 0, 0, 0⟩)
abbrev is_whole.st : Stmt := topS 1
def is_whole.ck : Ck := { N := ["value"], Gn := [], Bn := ["isinstance", "int", "bool"], CI := [], CT := [], lent := [] }
theorem is_whole.sc : FnScope is_whole.ck.N ["value"] (defScope is_whole.st) := ⟨rfl, rfl, rfl, by decide +kernel, rfl, by decide +kernel, by decide +kernel⟩
theorem is_whole.chk : okSs is_whole.ck (defScope is_whole.st) is_whole.b0 (defBody is_whole.st) = true := by decide +kernel
theorem is_whole.hl : ∀ ss Q E, sp_whole ss Q E → ∀ i, isOwn (getS ss i) → i ∈ is_whole.ck.lent := by
  intro ss Q E h i hi
  have e : ∃ x0, ss = [.val x0] := by
    unfold sp_whole at h
    repeat (first | exact ⟨_, h.1⟩ | obtain ⟨_, h⟩ := h)
  obtain ⟨x0, rfl⟩ := e
  rcases i with _ | _ <;> first | exact hi.elim | decide
abbrev is_row.st : Stmt := topS 3
def is_row.ck : Ck := { N := ["value", "size", "number"], Gn := [("is_whole", 1)], Bn := ["isinstance", "tuple", "len"], CI := [], CT := [], lent := [] }
theorem is_row.sc : FnScope is_row.ck.N ["value", "size"] (defScope is_row.st) := ⟨rfl, rfl, rfl, by decide +kernel, rfl, by decide +kernel, by decide +kernel⟩
theorem is_row.chk : okSs is_row.ck (defScope is_row.st) is_row.b0 (defBody is_row.st) = true := by decide +kernel
theorem is_row.hl : ∀ ss Q E, sp_row ss Q E → ∀ i, isOwn (getS ss i) → i ∈ is_row.ck.lent := by
  intro ss Q E h i hi
  have e : ∃ x0 x1, ss = [.val x0, .val x1] := by
    unfold sp_row at h
    repeat (first | exact ⟨_, _, h.1⟩ | obtain ⟨_, h⟩ := h)
  obtain ⟨x0, x1, rfl⟩ := e
  rcases i with _ | _ | _ <;> first | exact hi.elim | decide
abbrev zeros.st : Stmt := topS 4
def zeros.ck : Ck := { N := ["size"], Gn := [], Bn := [], CI := [], CT := [], lent := [] }
theorem zeros.sc : FnScope zeros.ck.N ["size"] (defScope zeros.st) := ⟨rfl, rfl, rfl, by decide +kernel, rfl, by decide +kernel, by decide +kernel⟩
theorem zeros.chk : okSs zeros.ck (defScope zeros.st) zeros.b0 (defBody zeros.st) = true := by decide +kernel
theorem zeros.hl : ∀ ss Q E, sp_zeros ss Q E → ∀ i, isOwn (getS ss i) → i ∈ zeros.ck.lent := by
  intro ss Q E h i hi
  have e : ∃ x0, ss = [.val x0] := by
    unfold sp_zeros at h
    repeat (first | exact ⟨_, h.1⟩ | obtain ⟨_, h⟩ := h)
  obtain ⟨x0, rfl⟩ := e
  rcases i with _ | _ <;> first | exact hi.elim | decide
abbrev unit.st : Stmt := topS 5
def unit.ck : Ck := { N := ["size", "place"], Gn := [], Bn := [], CI := [], CT := [], lent := [] }
theorem unit.sc : FnScope unit.ck.N ["size", "place"] (defScope unit.st) := ⟨rfl, rfl, rfl, by decide +kernel, rfl, by decide +kernel, by decide +kernel⟩
theorem unit.chk : okSs unit.ck (defScope unit.st) unit.b0 (defBody unit.st) = true := by decide +kernel
theorem unit.hl : ∀ ss Q E, sp_unit ss Q E → ∀ i, isOwn (getS ss i) → i ∈ unit.ck.lent := by
  intro ss Q E h i hi
  have e : ∃ x0 x1, ss = [.val x0, .val x1] := by
    unfold sp_unit at h
    repeat (first | exact ⟨_, _, h.1⟩ | obtain ⟨_, h⟩ := h)
  obtain ⟨x0, x1, rfl⟩ := e
  rcases i with _ | _ | _ <;> first | exact hi.elim | decide
abbrev plus_rows.st : Stmt := topS 6
def plus_rows.ck : Ck := { N := ["one", "other", "left", "right"], Gn := [], Bn := ["tuple", "zip"], CI := [], CT := [], lent := [] }
theorem plus_rows.sc : FnScope plus_rows.ck.N ["one", "other"] (defScope plus_rows.st) := ⟨rfl, rfl, rfl, by decide +kernel, rfl, by decide +kernel, by decide +kernel⟩
theorem plus_rows.chk : okSs plus_rows.ck (defScope plus_rows.st) plus_rows.b0 (defBody plus_rows.st) = true := by decide +kernel
theorem plus_rows.hl : ∀ ss Q E, (sp_zip fun a b => a + b) ss Q E → ∀ i, isOwn (getS ss i) → i ∈ plus_rows.ck.lent := by
  intro ss Q E h i hi
  have e : ∃ x0 x1, ss = [.val x0, .val x1] := by
    unfold sp_zip at h
    repeat (first | exact ⟨_, _, h.1⟩ | obtain ⟨_, h⟩ := h)
  obtain ⟨x0, x1, rfl⟩ := e
  rcases i with _ | _ | _ <;> first | exact hi.elim | decide
abbrev less_rows.st : Stmt := topS 7
def less_rows.ck : Ck := { N := ["one", "other", "left", "right"], Gn := [], Bn := ["tuple", "zip"], CI := [], CT := [], lent := [] }
theorem less_rows.sc : FnScope less_rows.ck.N ["one", "other"] (defScope less_rows.st) := ⟨rfl, rfl, rfl, by decide +kernel, rfl, by decide +kernel, by decide +kernel⟩
theorem less_rows.chk : okSs less_rows.ck (defScope less_rows.st) less_rows.b0 (defBody less_rows.st) = true := by decide +kernel
theorem less_rows.hl : ∀ ss Q E, (sp_zip fun a b => a - b) ss Q E → ∀ i, isOwn (getS ss i) → i ∈ less_rows.ck.lent := by
  intro ss Q E h i hi
  have e : ∃ x0 x1, ss = [.val x0, .val x1] := by
    unfold sp_zip at h
    repeat (first | exact ⟨_, _, h.1⟩ | obtain ⟨_, h⟩ := h)
  obtain ⟨x0, x1, rfl⟩ := e
  rcases i with _ | _ | _ <;> first | exact hi.elim | decide
abbrev scaled.st : Stmt := topS 8
def scaled.ck : Ck := { N := ["row", "factor", "number"], Gn := [], Bn := ["tuple"], CI := [], CT := [], lent := [] }
theorem scaled.sc : FnScope scaled.ck.N ["row", "factor"] (defScope scaled.st) := ⟨rfl, rfl, rfl, by decide +kernel, rfl, by decide +kernel, by decide +kernel⟩
theorem scaled.chk : okSs scaled.ck (defScope scaled.st) scaled.b0 (defBody scaled.st) = true := by decide +kernel
theorem scaled.hl : ∀ ss Q E, sp_scaled ss Q E → ∀ i, isOwn (getS ss i) → i ∈ scaled.ck.lent := by
  intro ss Q E h i hi
  have e : ∃ x0 x1, ss = [.val x0, .val x1] := by
    unfold sp_scaled at h
    repeat (first | exact ⟨_, _, h.1⟩ | obtain ⟨_, h⟩ := h)
  obtain ⟨x0, x1, rfl⟩ := e
  rcases i with _ | _ | _ <;> first | exact hi.elim | decide
abbrev shared.st : Stmt := topS 9
def shared.ck : Ck := { N := ["one", "other", "left", "right"], Gn := [], Bn := ["tuple", "zip"], CI := [], CT := [], lent := [] }
theorem shared.sc : FnScope shared.ck.N ["one", "other"] (defScope shared.st) := ⟨rfl, rfl, rfl, by decide +kernel, rfl, by decide +kernel, by decide +kernel⟩
theorem shared.chk : okSs shared.ck (defScope shared.st) shared.b0 (defBody shared.st) = true := by decide +kernel
theorem shared.hl : ∀ ss Q E, (sp_zip mn) ss Q E → ∀ i, isOwn (getS ss i) → i ∈ shared.ck.lent := by
  intro ss Q E h i hi
  have e : ∃ x0 x1, ss = [.val x0, .val x1] := by
    unfold sp_zip at h
    repeat (first | exact ⟨_, _, h.1⟩ | obtain ⟨_, h⟩ := h)
  obtain ⟨x0, x1, rfl⟩ := e
  rcases i with _ | _ | _ <;> first | exact hi.elim | decide
abbrev upper.st : Stmt := topS 10
def upper.ck : Ck := { N := ["one", "other", "left", "right"], Gn := [], Bn := ["tuple", "zip"], CI := [], CT := [], lent := [] }
theorem upper.sc : FnScope upper.ck.N ["one", "other"] (defScope upper.st) := ⟨rfl, rfl, rfl, by decide +kernel, rfl, by decide +kernel, by decide +kernel⟩
theorem upper.chk : okSs upper.ck (defScope upper.st) upper.b0 (defBody upper.st) = true := by decide +kernel
theorem upper.hl : ∀ ss Q E, (sp_zip mx) ss Q E → ∀ i, isOwn (getS ss i) → i ∈ upper.ck.lent := by
  intro ss Q E h i hi
  have e : ∃ x0 x1, ss = [.val x0, .val x1] := by
    unfold sp_zip at h
    repeat (first | exact ⟨_, _, h.1⟩ | obtain ⟨_, h⟩ := h)
  obtain ⟨x0, x1, rfl⟩ := e
  rcases i with _ | _ | _ <;> first | exact hi.elim | decide
abbrev within.st : Stmt := topS 11
def within.ck : Ck := { N := ["one", "other", "left", "right"], Gn := [], Bn := ["zip"], CI := [], CT := [], lent := [] }
theorem within.sc : FnScope within.ck.N ["one", "other"] (defScope within.st) := ⟨rfl, rfl, rfl, by decide +kernel, rfl, by decide +kernel, by decide +kernel⟩
theorem within.chk : okSs within.ck (defScope within.st) within.b0 (defBody within.st) = true := by decide +kernel
theorem within.hl : ∀ ss Q E, sp_within ss Q E → ∀ i, isOwn (getS ss i) → i ∈ within.ck.lent := by
  intro ss Q E h i hi
  have e : ∃ x0 x1, ss = [.val x0, .val x1] := by
    unfold sp_within at h
    repeat (first | exact ⟨_, _, h.1⟩ | obtain ⟨_, h⟩ := h)
  obtain ⟨x0, x1, rfl⟩ := e
  rcases i with _ | _ | _ <;> first | exact hi.elim | decide
abbrev meet.st : Stmt := topS 12
def meet.ck : Ck := { N := ["one", "other", "left", "right"], Gn := [], Bn := ["zip"], CI := [], CT := [], lent := [] }
theorem meet.sc : FnScope meet.ck.N ["one", "other"] (defScope meet.st) := ⟨rfl, rfl, rfl, by decide +kernel, rfl, by decide +kernel, by decide +kernel⟩
theorem meet.chk : okSs meet.ck (defScope meet.st) meet.b0 (defBody meet.st) = true := by decide +kernel
theorem meet.hl : ∀ ss Q E, sp_meet ss Q E → ∀ i, isOwn (getS ss i) → i ∈ meet.ck.lent := by
  intro ss Q E h i hi
  have e : ∃ x0 x1, ss = [.val x0, .val x1] := by
    unfold sp_meet at h
    repeat (first | exact ⟨_, _, h.1⟩ | obtain ⟨_, h⟩ := h)
  obtain ⟨x0, x1, rfl⟩ := e
  rcases i with _ | _ | _ <;> first | exact hi.elim | decide
abbrev total.st : Stmt := topS 13
def total.ck : Ck := { N := ["row"], Gn := [], Bn := ["sum"], CI := [], CT := [], lent := [] }
theorem total.sc : FnScope total.ck.N ["row"] (defScope total.st) := ⟨rfl, rfl, rfl, by decide +kernel, rfl, by decide +kernel, by decide +kernel⟩
theorem total.chk : okSs total.ck (defScope total.st) total.b0 (defBody total.st) = true := by decide +kernel
theorem total.hl : ∀ ss Q E, sp_total ss Q E → ∀ i, isOwn (getS ss i) → i ∈ total.ck.lent := by
  intro ss Q E h i hi
  have e : ∃ x0, ss = [.val x0] := by
    unfold sp_total at h
    repeat (first | exact ⟨_, h.1⟩ | obtain ⟨_, h⟩ := h)
  obtain ⟨x0, rfl⟩ := e
  rcases i with _ | _ <;> first | exact hi.elim | decide
abbrev dot.st : Stmt := topS 14
def dot.ck : Ck := { N := ["one", "other", "left", "right"], Gn := [], Bn := ["sum", "zip"], CI := [], CT := [], lent := [] }
theorem dot.sc : FnScope dot.ck.N ["one", "other"] (defScope dot.st) := ⟨rfl, rfl, rfl, by decide +kernel, rfl, by decide +kernel, by decide +kernel⟩
theorem dot.chk : okSs dot.ck (defScope dot.st) dot.b0 (defBody dot.st) = true := by decide +kernel
theorem dot.hl : ∀ ss Q E, sp_dot ss Q E → ∀ i, isOwn (getS ss i) → i ∈ dot.ck.lent := by
  intro ss Q E h i hi
  have e : ∃ x0 x1, ss = [.val x0, .val x1] := by
    unfold sp_dot at h
    repeat (first | exact ⟨_, _, h.1⟩ | obtain ⟨_, h⟩ := h)
  obtain ⟨x0, x1, rfl⟩ := e
  rcases i with _ | _ | _ <;> first | exact hi.elim | decide
abbrev support.st : Stmt := topS 15
def support.ck : Ck := { N := ["row", "place", "number"], Gn := [], Bn := ["tuple", "enumerate"], CI := [], CT := [], lent := [] }
theorem support.sc : FnScope support.ck.N ["row"] (defScope support.st) := ⟨rfl, rfl, rfl, by decide +kernel, rfl, by decide +kernel, by decide +kernel⟩
theorem support.chk : okSs support.ck (defScope support.st) support.b0 (defBody support.st) = true := by decide +kernel
theorem support.hl : ∀ ss Q E, sp_support ss Q E → ∀ i, isOwn (getS ss i) → i ∈ support.ck.lent := by
  intro ss Q E h i hi
  have e : ∃ x0, ss = [.val x0] := by
    unfold sp_support at h
    repeat (first | exact ⟨_, h.1⟩ | obtain ⟨_, h⟩ := h)
  obtain ⟨x0, rfl⟩ := e
  rcases i with _ | _ <;> first | exact hi.elim | decide
abbrev law_begin.st : Stmt := topS 17
def law_begin.ck : Ck := { N := ["script", "cell"], Gn := [], Bn := ["int"], CI := [], CT := [], lent := [] }
theorem law_begin.sc : FnScope law_begin.ck.N ["script"] (defScope law_begin.st) := ⟨rfl, rfl, rfl, by decide +kernel, rfl, by decide +kernel, by decide +kernel⟩
theorem law_begin.chk : okSs law_begin.ck (defScope law_begin.st) law_begin.b0 (defBody law_begin.st) = true := by decide +kernel
theorem law_begin.hl : ∀ ss Q E, sp_begin ss Q E → ∀ i, isOwn (getS ss i) → i ∈ law_begin.ck.lent := by
  intro ss Q E h i hi
  have e : ∃ x0, ss = [.val x0] := by
    unfold sp_begin at h
    repeat (first | exact ⟨_, h.1⟩ | obtain ⟨_, h⟩ := h)
  obtain ⟨x0, rfl⟩ := e
  rcases i with _ | _ <;> first | exact hi.elim | decide
abbrev law_draw.st : Stmt := topS 18
def law_draw.ck : Ck := { N := ["d", "many", "found", "size", "cell"], Gn := [], Bn := ["int", "len", "abs"], CI := [], CT := [], lent := [0] }
theorem law_draw.sc : FnScope law_draw.ck.N ["d", "many"] (defScope law_draw.st) := ⟨rfl, rfl, rfl, by decide +kernel, rfl, by decide +kernel, by decide +kernel⟩
theorem law_draw.chk : okSs law_draw.ck (defScope law_draw.st) law_draw.b0 (defBody law_draw.st) = true := by decide +kernel
theorem law_draw.hl : ∀ ss Q E, sp_draw ss Q E → ∀ i, isOwn (getS ss i) → i ∈ law_draw.ck.lent := by
  intro ss Q E h i hi
  have e : ∃ x0 x1, ss = [.own x0, .val x1] := by
    unfold sp_draw at h
    repeat (first | exact ⟨_, _, h.1⟩ | obtain ⟨_, h⟩ := h)
  obtain ⟨x0, x1, rfl⟩ := e
  rcases i with _ | _ | _ <;> first | exact hi.elim | decide
abbrev law_rare.st : Stmt := topS 19
def law_rare.ck : Ck := { N := ["d", "many"], Gn := [("_law_draw", 2)], Bn := [], CI := [], CT := [], lent := [0] }
theorem law_rare.sc : FnScope law_rare.ck.N ["d", "many"] (defScope law_rare.st) := ⟨rfl, rfl, rfl, by decide +kernel, rfl, by decide +kernel, by decide +kernel⟩
theorem law_rare.chk : okSs law_rare.ck (defScope law_rare.st) law_rare.b0 (defBody law_rare.st) = true := by decide +kernel
theorem law_rare.hl : ∀ ss Q E, sp_rare ss Q E → ∀ i, isOwn (getS ss i) → i ∈ law_rare.ck.lent := by
  intro ss Q E h i hi
  have e : ∃ x0 x1, ss = [.own x0, .val x1] := by
    unfold sp_rare at h
    repeat (first | exact ⟨_, _, h.1⟩ | obtain ⟨_, h⟩ := h)
  obtain ⟨x0, x1, rfl⟩ := e
  rcases i with _ | _ | _ <;> first | exact hi.elim | decide
abbrev law_is_int.st : Stmt := topS 20
def law_is_int.ck : Ck := { N := ["thing"], Gn := [], Bn := ["isinstance", "int", "bool"], CI := [], CT := [], lent := [] }
theorem law_is_int.sc : FnScope law_is_int.ck.N ["thing"] (defScope law_is_int.st) := ⟨rfl, rfl, rfl, by decide +kernel, rfl, by decide +kernel, by decide +kernel⟩
theorem law_is_int.chk : okSs law_is_int.ck (defScope law_is_int.st) law_is_int.b0 (defBody law_is_int.st) = true := by decide +kernel
theorem law_is_int.hl : ∀ ss Q E, sp_whole ss Q E → ∀ i, isOwn (getS ss i) → i ∈ law_is_int.ck.lent := by
  intro ss Q E h i hi
  have e : ∃ x0, ss = [.val x0] := by
    unfold sp_whole at h
    repeat (first | exact ⟨_, h.1⟩ | obtain ⟨_, h⟩ := h)
  obtain ⟨x0, rfl⟩ := e
  rcases i with _ | _ <;> first | exact hi.elim | decide
abbrev law_is_ints.st : Stmt := topS 21
def law_is_ints.ck : Ck := { N := ["thing", "size", "least", "part"], Gn := [("_law_is_int", 1)], Bn := ["isinstance", "tuple", "len", "all"], CI := [], CT := [], lent := [] }
theorem law_is_ints.sc : FnScope law_is_ints.ck.N ["thing", "size", "least"] (defScope law_is_ints.st) := ⟨rfl, rfl, rfl, by decide +kernel, rfl, by decide +kernel, by decide +kernel⟩
theorem law_is_ints.chk : okSs law_is_ints.ck (defScope law_is_ints.st) law_is_ints.b0 (defBody law_is_ints.st) = true := by decide +kernel
theorem law_is_ints.hl : ∀ ss Q E, sp_ints ss Q E → ∀ i, isOwn (getS ss i) → i ∈ law_is_ints.ck.lent := by
  intro ss Q E h i hi
  have e : ∃ x0 x1 x2, ss = [.val x0, .val x1, .val x2] := by
    unfold sp_ints at h
    repeat (first | exact ⟨_, _, _, h.1⟩ | obtain ⟨_, h⟩ := h)
  obtain ⟨x0, x1, x2, rfl⟩ := e
  rcases i with _ | _ | _ | _ <;> first | exact hi.elim | decide
abbrev law_number.st : Stmt := topS 22
def law_number.ck : Ck := { N := ["d", "way", "found", "k"], Gn := [("_law_draw", 2)], Bn := ["range"], CI := [], CT := [], lent := [0] }
theorem law_number.sc : FnScope law_number.ck.N ["d"] (defScope law_number.st) := ⟨rfl, rfl, rfl, by decide +kernel, rfl, by decide +kernel, by decide +kernel⟩
theorem law_number.chk : okSs law_number.ck (defScope law_number.st) law_number.b0 (defBody law_number.st) = true := by decide +kernel
theorem law_number.hl : ∀ ss Q E, sp_number ss Q E → ∀ i, isOwn (getS ss i) → i ∈ law_number.ck.lent := by
  intro ss Q E h i hi
  have e : ∃ x0, ss = [.own x0] := by
    unfold sp_number at h
    repeat (first | exact ⟨_, h.1⟩ | obtain ⟨_, h⟩ := h)
  obtain ⟨x0, rfl⟩ := e
  rcases i with _ | _ <;> first | exact hi.elim | decide
abbrev law_part.st : Stmt := topS 23
def law_part.ck : Ck := { N := ["d", "way", "found"], Gn := [("_law_draw", 2), ("_law_number", 1)], Bn := [], CI := [], CT := [], lent := [0] }
theorem law_part.sc : FnScope law_part.ck.N ["d"] (defScope law_part.st) := ⟨rfl, rfl, rfl, by decide +kernel, rfl, by decide +kernel, by decide +kernel⟩
theorem law_part.chk : okSs law_part.ck (defScope law_part.st) law_part.b0 (defBody law_part.st) = true := by decide +kernel
theorem law_part.hl : ∀ ss Q E, sp_part ss Q E → ∀ i, isOwn (getS ss i) → i ∈ law_part.ck.lent := by
  intro ss Q E h i hi
  have e : ∃ x0, ss = [.own x0] := by
    unfold sp_part at h
    repeat (first | exact ⟨_, h.1⟩ | obtain ⟨_, h⟩ := h)
  obtain ⟨x0, rfl⟩ := e
  rcases i with _ | _ <;> first | exact hi.elim | decide
abbrev law_rows.st : Stmt := topS 24
def law_rows.ck : Ck := { N := ["d", "size", "one", "other", "k", "way"], Gn := [("_law_part", 1), ("_law_draw", 2)], Bn := ["range", "tuple"], CI := [], CT := [], lent := [0] }
theorem law_rows.sc : FnScope law_rows.ck.N ["d", "size"] (defScope law_rows.st) := ⟨rfl, rfl, rfl, by decide +kernel, rfl, by decide +kernel, by decide +kernel⟩
theorem law_rows.chk : okSs law_rows.ck (defScope law_rows.st) law_rows.b0 (defBody law_rows.st) = true := by decide +kernel
theorem law_rows.hl : ∀ ss Q E, sp_rows ss Q E → ∀ i, isOwn (getS ss i) → i ∈ law_rows.ck.lent := by
  intro ss Q E h i hi
  have e : ∃ x0 x1, ss = [.own x0, .val x1] := by
    unfold sp_rows at h
    repeat (first | exact ⟨_, _, h.1⟩ | obtain ⟨_, h⟩ := h)
  obtain ⟨x0, x1, rfl⟩ := e
  rcases i with _ | _ | _ <;> first | exact hi.elim | decide
abbrev law_same_row.st : Stmt := topS 25
def law_same_row.ck : Ck := { N := ["told", "due", "k"], Gn := [("_law_is_int", 1)], Bn := ["isinstance", "tuple", "len", "all", "range"], CI := [], CT := [], lent := [] }
theorem law_same_row.sc : FnScope law_same_row.ck.N ["told", "due"] (defScope law_same_row.st) := ⟨rfl, rfl, rfl, by decide +kernel, rfl, by decide +kernel, by decide +kernel⟩
theorem law_same_row.chk : okSs law_same_row.ck (defScope law_same_row.st) law_same_row.b0 (defBody law_same_row.st) = true := by decide +kernel
theorem law_same_row.hl : ∀ ss Q E, sp_same ss Q E → ∀ i, isOwn (getS ss i) → i ∈ law_same_row.ck.lent := by
  intro ss Q E h i hi
  have e : ∃ x0 x1, ss = [.val x0, .val x1] := by
    unfold sp_same at h
    repeat (first | exact ⟨_, _, h.1⟩ | obtain ⟨_, h⟩ := h)
  obtain ⟨x0, x1, rfl⟩ := e
  rcases i with _ | _ | _ <;> first | exact hi.elim | decide
abbrev law_pair_right.st : Stmt := topS 26
def law_pair_right.ck : Ck := { N := ["one", "other", "places", "k", "told"], Gn := [("_law_same_row", 2), ("plus_rows", 2), ("less_rows", 2), ("shared", 2), ("upper", 2), ("within", 2), ("meet", 2), ("dot", 2), ("_law_is_int", 1)], Bn := ["list", "range", "len", "min", "max", "isinstance", "bool", "all", "any", "sum"], CI := [], CT := [], lent := [] }
theorem law_pair_right.sc : FnScope law_pair_right.ck.N ["one", "other"] (defScope law_pair_right.st) := ⟨rfl, rfl, rfl, by decide +kernel, rfl, by decide +kernel, by decide +kernel⟩
theorem law_pair_right.chk : okSs law_pair_right.ck (defScope law_pair_right.st) law_pair_right.b0 (defBody law_pair_right.st) = true := by decide +kernel
theorem law_pair_right.hl : ∀ ss Q E, sp_pair ss Q E → ∀ i, isOwn (getS ss i) → i ∈ law_pair_right.ck.lent := by
  intro ss Q E h i hi
  have e : ∃ x0 x1, ss = [.val x0, .val x1] := by
    unfold sp_pair at h
    repeat (first | exact ⟨_, _, h.1⟩ | obtain ⟨_, h⟩ := h)
  obtain ⟨x0, x1, rfl⟩ := e
  rcases i with _ | _ | _ <;> first | exact hi.elim | decide
abbrev law_alone_right.st : Stmt := topS 27
def law_alone_right.ck : Ck := { N := ["row", "factor", "places", "told", "k"], Gn := [("total", 1), ("_law_is_int", 1), ("_law_same_row", 2), ("scaled", 2), ("support", 1)], Bn := ["list", "range", "len", "sum"], CI := [], CT := [], lent := [] }
theorem law_alone_right.sc : FnScope law_alone_right.ck.N ["row", "factor"] (defScope law_alone_right.st) := ⟨rfl, rfl, rfl, by decide +kernel, rfl, by decide +kernel, by decide +kernel⟩
theorem law_alone_right.chk : okSs law_alone_right.ck (defScope law_alone_right.st) law_alone_right.b0 (defBody law_alone_right.st) = true := by decide +kernel
theorem law_alone_right.hl : ∀ ss Q E, sp_alone ss Q E → ∀ i, isOwn (getS ss i) → i ∈ law_alone_right.ck.lent := by
  intro ss Q E h i hi
  have e : ∃ x0 x1, ss = [.val x0, .val x1] := by
    unfold sp_alone at h
    repeat (first | exact ⟨_, _, h.1⟩ | obtain ⟨_, h⟩ := h)
  obtain ⟨x0, x1, rfl⟩ := e
  rcases i with _ | _ | _ <;> first | exact hi.elim | decide
abbrev law_odd.st : Stmt := topS 28
def law_odd.ck : Ck := { N := ["d", "row", "size", "found", "place", "part"], Gn := [("_law_draw", 2)], Bn := ["len", "list", "max"], CI := [], CT := [], lent := [0] }
theorem law_odd.sc : FnScope law_odd.ck.N ["d", "row"] (defScope law_odd.st) := ⟨rfl, rfl, rfl, by decide +kernel, rfl, by decide +kernel, by decide +kernel⟩
theorem law_odd.chk : okSs law_odd.ck (defScope law_odd.st) law_odd.b0 (defBody law_odd.st) = true := by decide +kernel
theorem law_odd.hl : ∀ ss Q E, sp_odd ss Q E → ∀ i, isOwn (getS ss i) → i ∈ law_odd.ck.lent := by
  intro ss Q E h i hi
  have e : ∃ x0 x1, ss = [.own x0, .val x1] := by
    unfold sp_odd at h
    repeat (first | exact ⟨_, _, h.1⟩ | obtain ⟨_, h⟩ := h)
  obtain ⟨x0, x1, rfl⟩ := e
  rcases i with _ | _ | _ <;> first | exact hi.elim | decide
abbrev law_changed.st : Stmt := topS 29
def law_changed.ck : Ck := { N := ["d", "row", "place"], Gn := [("_law_draw", 2)], Bn := ["len"], CI := [], CT := [], lent := [0] }
theorem law_changed.sc : FnScope law_changed.ck.N ["d", "row"] (defScope law_changed.st) := ⟨rfl, rfl, rfl, by decide +kernel, rfl, by decide +kernel, by decide +kernel⟩
theorem law_changed.chk : okSs law_changed.ck (defScope law_changed.st) law_changed.b0 (defBody law_changed.st) = true := by decide +kernel
theorem law_changed.hl : ∀ ss Q E, sp_changed ss Q E → ∀ i, isOwn (getS ss i) → i ∈ law_changed.ck.lent := by
  intro ss Q E h i hi
  have e : ∃ x0 x1, ss = [.own x0, .val x1] := by
    unfold sp_changed at h
    repeat (first | exact ⟨_, _, h.1⟩ | obtain ⟨_, h⟩ := h)
  obtain ⟨x0, x1, rfl⟩ := e
  rcases i with _ | _ | _ <;> first | exact hi.elim | decide
abbrev law.st : Stmt := topS 30
def law.ck : Ck := { N := ["script", "d", "size", "one", "other", "places", "most", "k", "least", "apart", "changed", "nothing", "pairs", "pair", "row", "factor", "place", "bare", "part", "value", "many", "told"], Gn := [("_law_begin", 1), ("_law_draw", 2), ("_law_rare", 2), ("_law_rows", 2), ("_law_changed", 2), ("_law_pair_right", 2), ("_law_part", 1), ("_law_alone_right", 2), ("_law_same_row", 2), ("zeros", 1), ("unit", 2), ("_law_odd", 2), ("is_row", 2), ("_law_is_ints", 3)], Bn := ["int", "list", "range", "tuple", "max", "min", "abs", "isinstance", "bool"], CI := [], CT := [], lent := [] }
theorem law.sc : FnScope law.ck.N ["script"] (defScope law.st) := ⟨rfl, rfl, rfl, by decide +kernel, rfl, by decide +kernel, by decide +kernel⟩
theorem law.chk : okSs law.ck (defScope law.st) law.b0 (defBody law.st) = true := by decide +kernel
theorem law.hl : ∀ ss Q E, sp_law ss Q E → ∀ i, isOwn (getS ss i) → i ∈ law.ck.lent := by
  intro ss Q E h i hi
  have e : ∃ x0, ss = [.val x0] := by
    unfold sp_law at h
    repeat (first | exact ⟨_, h.1⟩ | obtain ⟨_, h⟩ := h)
  obtain ⟨x0, rfl⟩ := e
  rcases i with _ | _ <;> first | exact hi.elim | decide
section
variable {P : Program} {w : World} {K : PySem.W.Frag} {mg : Str → Option Value}
set_option maxHeartbeats 4000000 in
theorem all_mk {l : PySem.W.OpenLaw} {h : Heap} {fa : Addr} (X : K.In h) (G : h.Ns mainGlobals mg) (hfa : mg "law" = some (.ref fa))
    {f0 : Addr} {od0 an0 : Option Addr} {sl0 : Array (Option Value)} {oc0 kV0 dc0 pm0 cd0 ct0 : Value}
    (a0 : PySem.W.nsIn K mainGlobals "is_whole" = some (some (.ref f0))) (l0 : K.lookup f0 = some ⟨oc0, od0, .func (PySem.W.fnOf "is_whole" "is_whole" (defArgs is_whole.st) (defBody is_whole.st) (defScope is_whole.st) .none kV0 dc0 pm0 an0 cd0 ct0), sl0⟩) (c0 : PySem.W.codeIn K cd0 "is_whole" = true) (k0 : PySem.W.keepIn K (.ref f0) = true)
    {f1 : Addr} {od1 an1 : Option Addr} {sl1 : Array (Option Value)} {oc1 kV1 dc1 pm1 cd1 ct1 : Value}
    (a1 : PySem.W.nsIn K mainGlobals "is_row" = some (some (.ref f1))) (l1 : K.lookup f1 = some ⟨oc1, od1, .func (PySem.W.fnOf "is_row" "is_row" (defArgs is_row.st) (defBody is_row.st) (defScope is_row.st) .none kV1 dc1 pm1 an1 cd1 ct1), sl1⟩) (c1 : PySem.W.codeIn K cd1 "is_row" = true) (k1 : PySem.W.keepIn K (.ref f1) = true)
    {f2 : Addr} {od2 an2 : Option Addr} {sl2 : Array (Option Value)} {oc2 kV2 dc2 pm2 cd2 ct2 : Value}
    (a2 : PySem.W.nsIn K mainGlobals "zeros" = some (some (.ref f2))) (l2 : K.lookup f2 = some ⟨oc2, od2, .func (PySem.W.fnOf "zeros" "zeros" (defArgs zeros.st) (defBody zeros.st) (defScope zeros.st) .none kV2 dc2 pm2 an2 cd2 ct2), sl2⟩) (c2 : PySem.W.codeIn K cd2 "zeros" = true) (k2 : PySem.W.keepIn K (.ref f2) = true)
    {f3 : Addr} {od3 an3 : Option Addr} {sl3 : Array (Option Value)} {oc3 kV3 dc3 pm3 cd3 ct3 : Value}
    (a3 : PySem.W.nsIn K mainGlobals "unit" = some (some (.ref f3))) (l3 : K.lookup f3 = some ⟨oc3, od3, .func (PySem.W.fnOf "unit" "unit" (defArgs unit.st) (defBody unit.st) (defScope unit.st) .none kV3 dc3 pm3 an3 cd3 ct3), sl3⟩) (c3 : PySem.W.codeIn K cd3 "unit" = true) (k3 : PySem.W.keepIn K (.ref f3) = true)
    {f4 : Addr} {od4 an4 : Option Addr} {sl4 : Array (Option Value)} {oc4 kV4 dc4 pm4 cd4 ct4 : Value}
    (a4 : PySem.W.nsIn K mainGlobals "plus_rows" = some (some (.ref f4))) (l4 : K.lookup f4 = some ⟨oc4, od4, .func (PySem.W.fnOf "plus_rows" "plus_rows" (defArgs plus_rows.st) (defBody plus_rows.st) (defScope plus_rows.st) .none kV4 dc4 pm4 an4 cd4 ct4), sl4⟩) (c4 : PySem.W.codeIn K cd4 "plus_rows" = true) (k4 : PySem.W.keepIn K (.ref f4) = true)
    {f5 : Addr} {od5 an5 : Option Addr} {sl5 : Array (Option Value)} {oc5 kV5 dc5 pm5 cd5 ct5 : Value}
    (a5 : PySem.W.nsIn K mainGlobals "less_rows" = some (some (.ref f5))) (l5 : K.lookup f5 = some ⟨oc5, od5, .func (PySem.W.fnOf "less_rows" "less_rows" (defArgs less_rows.st) (defBody less_rows.st) (defScope less_rows.st) .none kV5 dc5 pm5 an5 cd5 ct5), sl5⟩) (c5 : PySem.W.codeIn K cd5 "less_rows" = true) (k5 : PySem.W.keepIn K (.ref f5) = true)
    {f6 : Addr} {od6 an6 : Option Addr} {sl6 : Array (Option Value)} {oc6 kV6 dc6 pm6 cd6 ct6 : Value}
    (a6 : PySem.W.nsIn K mainGlobals "scaled" = some (some (.ref f6))) (l6 : K.lookup f6 = some ⟨oc6, od6, .func (PySem.W.fnOf "scaled" "scaled" (defArgs scaled.st) (defBody scaled.st) (defScope scaled.st) .none kV6 dc6 pm6 an6 cd6 ct6), sl6⟩) (c6 : PySem.W.codeIn K cd6 "scaled" = true) (k6 : PySem.W.keepIn K (.ref f6) = true)
    {f7 : Addr} {od7 an7 : Option Addr} {sl7 : Array (Option Value)} {oc7 kV7 dc7 pm7 cd7 ct7 : Value}
    (a7 : PySem.W.nsIn K mainGlobals "shared" = some (some (.ref f7))) (l7 : K.lookup f7 = some ⟨oc7, od7, .func (PySem.W.fnOf "shared" "shared" (defArgs shared.st) (defBody shared.st) (defScope shared.st) .none kV7 dc7 pm7 an7 cd7 ct7), sl7⟩) (c7 : PySem.W.codeIn K cd7 "shared" = true) (k7 : PySem.W.keepIn K (.ref f7) = true)
    {f8 : Addr} {od8 an8 : Option Addr} {sl8 : Array (Option Value)} {oc8 kV8 dc8 pm8 cd8 ct8 : Value}
    (a8 : PySem.W.nsIn K mainGlobals "upper" = some (some (.ref f8))) (l8 : K.lookup f8 = some ⟨oc8, od8, .func (PySem.W.fnOf "upper" "upper" (defArgs upper.st) (defBody upper.st) (defScope upper.st) .none kV8 dc8 pm8 an8 cd8 ct8), sl8⟩) (c8 : PySem.W.codeIn K cd8 "upper" = true) (k8 : PySem.W.keepIn K (.ref f8) = true)
    {f9 : Addr} {od9 an9 : Option Addr} {sl9 : Array (Option Value)} {oc9 kV9 dc9 pm9 cd9 ct9 : Value}
    (a9 : PySem.W.nsIn K mainGlobals "within" = some (some (.ref f9))) (l9 : K.lookup f9 = some ⟨oc9, od9, .func (PySem.W.fnOf "within" "within" (defArgs within.st) (defBody within.st) (defScope within.st) .none kV9 dc9 pm9 an9 cd9 ct9), sl9⟩) (c9 : PySem.W.codeIn K cd9 "within" = true) (k9 : PySem.W.keepIn K (.ref f9) = true)
    {f10 : Addr} {od10 an10 : Option Addr} {sl10 : Array (Option Value)} {oc10 kV10 dc10 pm10 cd10 ct10 : Value}
    (a10 : PySem.W.nsIn K mainGlobals "meet" = some (some (.ref f10))) (l10 : K.lookup f10 = some ⟨oc10, od10, .func (PySem.W.fnOf "meet" "meet" (defArgs meet.st) (defBody meet.st) (defScope meet.st) .none kV10 dc10 pm10 an10 cd10 ct10), sl10⟩) (c10 : PySem.W.codeIn K cd10 "meet" = true) (k10 : PySem.W.keepIn K (.ref f10) = true)
    {f11 : Addr} {od11 an11 : Option Addr} {sl11 : Array (Option Value)} {oc11 kV11 dc11 pm11 cd11 ct11 : Value}
    (a11 : PySem.W.nsIn K mainGlobals "total" = some (some (.ref f11))) (l11 : K.lookup f11 = some ⟨oc11, od11, .func (PySem.W.fnOf "total" "total" (defArgs total.st) (defBody total.st) (defScope total.st) .none kV11 dc11 pm11 an11 cd11 ct11), sl11⟩) (c11 : PySem.W.codeIn K cd11 "total" = true) (k11 : PySem.W.keepIn K (.ref f11) = true)
    {f12 : Addr} {od12 an12 : Option Addr} {sl12 : Array (Option Value)} {oc12 kV12 dc12 pm12 cd12 ct12 : Value}
    (a12 : PySem.W.nsIn K mainGlobals "dot" = some (some (.ref f12))) (l12 : K.lookup f12 = some ⟨oc12, od12, .func (PySem.W.fnOf "dot" "dot" (defArgs dot.st) (defBody dot.st) (defScope dot.st) .none kV12 dc12 pm12 an12 cd12 ct12), sl12⟩) (c12 : PySem.W.codeIn K cd12 "dot" = true) (k12 : PySem.W.keepIn K (.ref f12) = true)
    {f13 : Addr} {od13 an13 : Option Addr} {sl13 : Array (Option Value)} {oc13 kV13 dc13 pm13 cd13 ct13 : Value}
    (a13 : PySem.W.nsIn K mainGlobals "support" = some (some (.ref f13))) (l13 : K.lookup f13 = some ⟨oc13, od13, .func (PySem.W.fnOf "support" "support" (defArgs support.st) (defBody support.st) (defScope support.st) .none kV13 dc13 pm13 an13 cd13 ct13), sl13⟩) (c13 : PySem.W.codeIn K cd13 "support" = true) (k13 : PySem.W.keepIn K (.ref f13) = true)
    {f14 : Addr} {od14 an14 : Option Addr} {sl14 : Array (Option Value)} {oc14 kV14 dc14 pm14 cd14 ct14 : Value}
    (a14 : PySem.W.nsIn K mainGlobals "_law_begin" = some (some (.ref f14))) (l14 : K.lookup f14 = some ⟨oc14, od14, .func (PySem.W.fnOf "_law_begin" "_law_begin" (defArgs law_begin.st) (defBody law_begin.st) (defScope law_begin.st) .none kV14 dc14 pm14 an14 cd14 ct14), sl14⟩) (c14 : PySem.W.codeIn K cd14 "_law_begin" = true) (k14 : PySem.W.keepIn K (.ref f14) = true)
    {f15 : Addr} {od15 an15 : Option Addr} {sl15 : Array (Option Value)} {oc15 kV15 dc15 pm15 cd15 ct15 : Value}
    (a15 : PySem.W.nsIn K mainGlobals "_law_draw" = some (some (.ref f15))) (l15 : K.lookup f15 = some ⟨oc15, od15, .func (PySem.W.fnOf "_law_draw" "_law_draw" (defArgs law_draw.st) (defBody law_draw.st) (defScope law_draw.st) .none kV15 dc15 pm15 an15 cd15 ct15), sl15⟩) (c15 : PySem.W.codeIn K cd15 "_law_draw" = true) (k15 : PySem.W.keepIn K (.ref f15) = true)
    {f16 : Addr} {od16 an16 : Option Addr} {sl16 : Array (Option Value)} {oc16 kV16 dc16 pm16 cd16 ct16 : Value}
    (a16 : PySem.W.nsIn K mainGlobals "_law_rare" = some (some (.ref f16))) (l16 : K.lookup f16 = some ⟨oc16, od16, .func (PySem.W.fnOf "_law_rare" "_law_rare" (defArgs law_rare.st) (defBody law_rare.st) (defScope law_rare.st) .none kV16 dc16 pm16 an16 cd16 ct16), sl16⟩) (c16 : PySem.W.codeIn K cd16 "_law_rare" = true) (k16 : PySem.W.keepIn K (.ref f16) = true)
    {f17 : Addr} {od17 an17 : Option Addr} {sl17 : Array (Option Value)} {oc17 kV17 dc17 pm17 cd17 ct17 : Value}
    (a17 : PySem.W.nsIn K mainGlobals "_law_is_int" = some (some (.ref f17))) (l17 : K.lookup f17 = some ⟨oc17, od17, .func (PySem.W.fnOf "_law_is_int" "_law_is_int" (defArgs law_is_int.st) (defBody law_is_int.st) (defScope law_is_int.st) .none kV17 dc17 pm17 an17 cd17 ct17), sl17⟩) (c17 : PySem.W.codeIn K cd17 "_law_is_int" = true) (k17 : PySem.W.keepIn K (.ref f17) = true)
    {f18 : Addr} {od18 an18 : Option Addr} {sl18 : Array (Option Value)} {oc18 kV18 dc18 pm18 cd18 ct18 : Value}
    (a18 : PySem.W.nsIn K mainGlobals "_law_is_ints" = some (some (.ref f18))) (l18 : K.lookup f18 = some ⟨oc18, od18, .func (PySem.W.fnOf "_law_is_ints" "_law_is_ints" (defArgs law_is_ints.st) (defBody law_is_ints.st) (defScope law_is_ints.st) .none kV18 dc18 pm18 an18 cd18 ct18), sl18⟩) (c18 : PySem.W.codeIn K cd18 "_law_is_ints" = true) (k18 : PySem.W.keepIn K (.ref f18) = true)
    {f19 : Addr} {od19 an19 : Option Addr} {sl19 : Array (Option Value)} {oc19 kV19 dc19 pm19 cd19 ct19 : Value}
    (a19 : PySem.W.nsIn K mainGlobals "_law_number" = some (some (.ref f19))) (l19 : K.lookup f19 = some ⟨oc19, od19, .func (PySem.W.fnOf "_law_number" "_law_number" (defArgs law_number.st) (defBody law_number.st) (defScope law_number.st) .none kV19 dc19 pm19 an19 cd19 ct19), sl19⟩) (c19 : PySem.W.codeIn K cd19 "_law_number" = true) (k19 : PySem.W.keepIn K (.ref f19) = true)
    {f20 : Addr} {od20 an20 : Option Addr} {sl20 : Array (Option Value)} {oc20 kV20 dc20 pm20 cd20 ct20 : Value}
    (a20 : PySem.W.nsIn K mainGlobals "_law_part" = some (some (.ref f20))) (l20 : K.lookup f20 = some ⟨oc20, od20, .func (PySem.W.fnOf "_law_part" "_law_part" (defArgs law_part.st) (defBody law_part.st) (defScope law_part.st) .none kV20 dc20 pm20 an20 cd20 ct20), sl20⟩) (c20 : PySem.W.codeIn K cd20 "_law_part" = true) (k20 : PySem.W.keepIn K (.ref f20) = true)
    {f21 : Addr} {od21 an21 : Option Addr} {sl21 : Array (Option Value)} {oc21 kV21 dc21 pm21 cd21 ct21 : Value}
    (a21 : PySem.W.nsIn K mainGlobals "_law_rows" = some (some (.ref f21))) (l21 : K.lookup f21 = some ⟨oc21, od21, .func (PySem.W.fnOf "_law_rows" "_law_rows" (defArgs law_rows.st) (defBody law_rows.st) (defScope law_rows.st) .none kV21 dc21 pm21 an21 cd21 ct21), sl21⟩) (c21 : PySem.W.codeIn K cd21 "_law_rows" = true) (k21 : PySem.W.keepIn K (.ref f21) = true)
    {f22 : Addr} {od22 an22 : Option Addr} {sl22 : Array (Option Value)} {oc22 kV22 dc22 pm22 cd22 ct22 : Value}
    (a22 : PySem.W.nsIn K mainGlobals "_law_same_row" = some (some (.ref f22))) (l22 : K.lookup f22 = some ⟨oc22, od22, .func (PySem.W.fnOf "_law_same_row" "_law_same_row" (defArgs law_same_row.st) (defBody law_same_row.st) (defScope law_same_row.st) .none kV22 dc22 pm22 an22 cd22 ct22), sl22⟩) (c22 : PySem.W.codeIn K cd22 "_law_same_row" = true) (k22 : PySem.W.keepIn K (.ref f22) = true)
    {f23 : Addr} {od23 an23 : Option Addr} {sl23 : Array (Option Value)} {oc23 kV23 dc23 pm23 cd23 ct23 : Value}
    (a23 : PySem.W.nsIn K mainGlobals "_law_pair_right" = some (some (.ref f23))) (l23 : K.lookup f23 = some ⟨oc23, od23, .func (PySem.W.fnOf "_law_pair_right" "_law_pair_right" (defArgs law_pair_right.st) (defBody law_pair_right.st) (defScope law_pair_right.st) .none kV23 dc23 pm23 an23 cd23 ct23), sl23⟩) (c23 : PySem.W.codeIn K cd23 "_law_pair_right" = true) (k23 : PySem.W.keepIn K (.ref f23) = true)
    {f24 : Addr} {od24 an24 : Option Addr} {sl24 : Array (Option Value)} {oc24 kV24 dc24 pm24 cd24 ct24 : Value}
    (a24 : PySem.W.nsIn K mainGlobals "_law_alone_right" = some (some (.ref f24))) (l24 : K.lookup f24 = some ⟨oc24, od24, .func (PySem.W.fnOf "_law_alone_right" "_law_alone_right" (defArgs law_alone_right.st) (defBody law_alone_right.st) (defScope law_alone_right.st) .none kV24 dc24 pm24 an24 cd24 ct24), sl24⟩) (c24 : PySem.W.codeIn K cd24 "_law_alone_right" = true) (k24 : PySem.W.keepIn K (.ref f24) = true)
    {f25 : Addr} {od25 an25 : Option Addr} {sl25 : Array (Option Value)} {oc25 kV25 dc25 pm25 cd25 ct25 : Value}
    (a25 : PySem.W.nsIn K mainGlobals "_law_odd" = some (some (.ref f25))) (l25 : K.lookup f25 = some ⟨oc25, od25, .func (PySem.W.fnOf "_law_odd" "_law_odd" (defArgs law_odd.st) (defBody law_odd.st) (defScope law_odd.st) .none kV25 dc25 pm25 an25 cd25 ct25), sl25⟩) (c25 : PySem.W.codeIn K cd25 "_law_odd" = true) (k25 : PySem.W.keepIn K (.ref f25) = true)
    {f26 : Addr} {od26 an26 : Option Addr} {sl26 : Array (Option Value)} {oc26 kV26 dc26 pm26 cd26 ct26 : Value}
    (a26 : PySem.W.nsIn K mainGlobals "_law_changed" = some (some (.ref f26))) (l26 : K.lookup f26 = some ⟨oc26, od26, .func (PySem.W.fnOf "_law_changed" "_law_changed" (defArgs law_changed.st) (defBody law_changed.st) (defScope law_changed.st) .none kV26 dc26 pm26 an26 cd26 ct26), sl26⟩) (c26 : PySem.W.codeIn K cd26 "_law_changed" = true) (k26 : PySem.W.keepIn K (.ref f26) = true)
    {f27 : Addr} {od27 an27 : Option Addr} {sl27 : Array (Option Value)} {oc27 kV27 dc27 pm27 cd27 ct27 : Value}
    (a27 : PySem.W.nsIn K mainGlobals "law" = some (some (.ref f27))) (l27 : K.lookup f27 = some ⟨oc27, od27, .func (PySem.W.fnOf "law" "law" (defArgs law.st) (defBody law.st) (defScope law.st) .none kV27 dc27 pm27 an27 cd27 ct27), sl27⟩) (c27 : PySem.W.codeIn K cd27 "law" = true) (k27 : PySem.W.keepIn K (.ref f27) = true)
    (z0 : PySem.W.nsIn K mainGlobals "isinstance" = some none)
    (z1 : PySem.W.nsIn K mainGlobals "int" = some none)
    (z2 : PySem.W.nsIn K mainGlobals "bool" = some none)
    (z3 : PySem.W.nsIn K mainGlobals "tuple" = some none)
    (z4 : PySem.W.nsIn K mainGlobals "len" = some none)
    (z5 : PySem.W.nsIn K mainGlobals "zip" = some none)
    (z6 : PySem.W.nsIn K mainGlobals "sum" = some none)
    (z7 : PySem.W.nsIn K mainGlobals "enumerate" = some none)
    (z8 : PySem.W.nsIn K mainGlobals "abs" = some none)
    (z9 : PySem.W.nsIn K mainGlobals "all" = some none)
    (z10 : PySem.W.nsIn K mainGlobals "range" = some none)
    (z11 : PySem.W.nsIn K mainGlobals "list" = some none)
    (z12 : PySem.W.nsIn K mainGlobals "min" = some none)
    (z13 : PySem.W.nsIn K mainGlobals "max" = some none)
    (z14 : PySem.W.nsIn K mainGlobals "any" = some none) :
    ∃ fd : FuncData, (∀ (s : Shared) (v : Value), BindsTo s fd ⟨[v], []⟩ [("script", v)]) ∧ ∀ base : Heap, K.In base → base.Ns mainGlobals mg → FnOk l.prog w K mg base (L2.CX l.prog w) 5 fa fd ["script"] (spLaw K 63) := by
  have e := hfa.symm.trans (PySem.W.mg_of X G a27)
  cases e
  have F0 := fun_mk (st := is_whole.st) l0 c0 k0
  have b0 := F0.binds (ps := ["value"]) fun _ _ _ _ _ _ us hl => match us, hl with | [_], _ => rfl
  have F1 := fun_mk (st := is_row.st) l1 c1 k1
  have b1 := F1.binds (ps := ["value", "size"]) fun _ _ _ _ _ _ us hl => match us, hl with | [_, _], _ => rfl
  have F2 := fun_mk (st := zeros.st) l2 c2 k2
  have b2 := F2.binds (ps := ["size"]) fun _ _ _ _ _ _ us hl => match us, hl with | [_], _ => rfl
  have F3 := fun_mk (st := unit.st) l3 c3 k3
  have b3 := F3.binds (ps := ["size", "place"]) fun _ _ _ _ _ _ us hl => match us, hl with | [_, _], _ => rfl
  have F4 := fun_mk (st := plus_rows.st) l4 c4 k4
  have b4 := F4.binds (ps := ["one", "other"]) fun _ _ _ _ _ _ us hl => match us, hl with | [_, _], _ => rfl
  have F5 := fun_mk (st := less_rows.st) l5 c5 k5
  have b5 := F5.binds (ps := ["one", "other"]) fun _ _ _ _ _ _ us hl => match us, hl with | [_, _], _ => rfl
  have F6 := fun_mk (st := scaled.st) l6 c6 k6
  have b6 := F6.binds (ps := ["row", "factor"]) fun _ _ _ _ _ _ us hl => match us, hl with | [_, _], _ => rfl
  have F7 := fun_mk (st := shared.st) l7 c7 k7
  have b7 := F7.binds (ps := ["one", "other"]) fun _ _ _ _ _ _ us hl => match us, hl with | [_, _], _ => rfl
  have F8 := fun_mk (st := upper.st) l8 c8 k8
  have b8 := F8.binds (ps := ["one", "other"]) fun _ _ _ _ _ _ us hl => match us, hl with | [_, _], _ => rfl
  have F9 := fun_mk (st := within.st) l9 c9 k9
  have b9 := F9.binds (ps := ["one", "other"]) fun _ _ _ _ _ _ us hl => match us, hl with | [_, _], _ => rfl
  have F10 := fun_mk (st := meet.st) l10 c10 k10
  have b10 := F10.binds (ps := ["one", "other"]) fun _ _ _ _ _ _ us hl => match us, hl with | [_, _], _ => rfl
  have F11 := fun_mk (st := total.st) l11 c11 k11
  have b11 := F11.binds (ps := ["row"]) fun _ _ _ _ _ _ us hl => match us, hl with | [_], _ => rfl
  have F12 := fun_mk (st := dot.st) l12 c12 k12
  have b12 := F12.binds (ps := ["one", "other"]) fun _ _ _ _ _ _ us hl => match us, hl with | [_, _], _ => rfl
  have F13 := fun_mk (st := support.st) l13 c13 k13
  have b13 := F13.binds (ps := ["row"]) fun _ _ _ _ _ _ us hl => match us, hl with | [_], _ => rfl
  have F14 := fun_mk (st := law_begin.st) l14 c14 k14
  have b14 := F14.binds (ps := ["script"]) fun _ _ _ _ _ _ us hl => match us, hl with | [_], _ => rfl
  have F15 := fun_mk (st := law_draw.st) l15 c15 k15
  have b15 := F15.binds (ps := ["d", "many"]) fun _ _ _ _ _ _ us hl => match us, hl with | [_, _], _ => rfl
  have F16 := fun_mk (st := law_rare.st) l16 c16 k16
  have b16 := F16.binds (ps := ["d", "many"]) fun _ _ _ _ _ _ us hl => match us, hl with | [_, _], _ => rfl
  have F17 := fun_mk (st := law_is_int.st) l17 c17 k17
  have b17 := F17.binds (ps := ["thing"]) fun _ _ _ _ _ _ us hl => match us, hl with | [_], _ => rfl
  have F18 := fun_mk (st := law_is_ints.st) l18 c18 k18
  have b18 := F18.binds (ps := ["thing", "size", "least"]) fun _ _ _ _ _ _ us hl => match us, hl with | [_, _, _], _ => rfl
  have F19 := fun_mk (st := law_number.st) l19 c19 k19
  have b19 := F19.binds (ps := ["d"]) fun _ _ _ _ _ _ us hl => match us, hl with | [_], _ => rfl
  have F20 := fun_mk (st := law_part.st) l20 c20 k20
  have b20 := F20.binds (ps := ["d"]) fun _ _ _ _ _ _ us hl => match us, hl with | [_], _ => rfl
  have F21 := fun_mk (st := law_rows.st) l21 c21 k21
  have b21 := F21.binds (ps := ["d", "size"]) fun _ _ _ _ _ _ us hl => match us, hl with | [_, _], _ => rfl
  have F22 := fun_mk (st := law_same_row.st) l22 c22 k22
  have b22 := F22.binds (ps := ["told", "due"]) fun _ _ _ _ _ _ us hl => match us, hl with | [_, _], _ => rfl
  have F23 := fun_mk (st := law_pair_right.st) l23 c23 k23
  have b23 := F23.binds (ps := ["one", "other"]) fun _ _ _ _ _ _ us hl => match us, hl with | [_, _], _ => rfl
  have F24 := fun_mk (st := law_alone_right.st) l24 c24 k24
  have b24 := F24.binds (ps := ["row", "factor"]) fun _ _ _ _ _ _ us hl => match us, hl with | [_, _], _ => rfl
  have F25 := fun_mk (st := law_odd.st) l25 c25 k25
  have b25 := F25.binds (ps := ["d", "row"]) fun _ _ _ _ _ _ us hl => match us, hl with | [_, _], _ => rfl
  have F26 := fun_mk (st := law_changed.st) l26 c26 k26
  have b26 := F26.binds (ps := ["d", "row"]) fun _ _ _ _ _ _ us hl => match us, hl with | [_, _], _ => rfl
  have F27 := fun_mk (st := law.st) l27 c27 k27
  have y0 := PySem.W.mg_none_of X G z0
  have y1 := PySem.W.mg_none_of X G z1
  have y2 := PySem.W.mg_none_of X G z2
  have y3 := PySem.W.mg_none_of X G z3
  have y4 := PySem.W.mg_none_of X G z4
  have y5 := PySem.W.mg_none_of X G z5
  have y6 := PySem.W.mg_none_of X G z6
  have y7 := PySem.W.mg_none_of X G z7
  have y8 := PySem.W.mg_none_of X G z8
  have y9 := PySem.W.mg_none_of X G z9
  have y10 := PySem.W.mg_none_of X G z10
  have y11 := PySem.W.mg_none_of X G z11
  have y12 := PySem.W.mg_none_of X G z12
  have y13 := PySem.W.mg_none_of X G z13
  have y14 := PySem.W.mg_none_of X G z14
  have m0 := PySem.W.mg_of X G a0
  have m1 := PySem.W.mg_of X G a1
  have m2 := PySem.W.mg_of X G a2
  have m3 := PySem.W.mg_of X G a3
  have m4 := PySem.W.mg_of X G a4
  have m5 := PySem.W.mg_of X G a5
  have m6 := PySem.W.mg_of X G a6
  have m7 := PySem.W.mg_of X G a7
  have m8 := PySem.W.mg_of X G a8
  have m9 := PySem.W.mg_of X G a9
  have m10 := PySem.W.mg_of X G a10
  have m11 := PySem.W.mg_of X G a11
  have m12 := PySem.W.mg_of X G a12
  have m13 := PySem.W.mg_of X G a13
  have m14 := PySem.W.mg_of X G a14
  have m15 := PySem.W.mg_of X G a15
  have m16 := PySem.W.mg_of X G a16
  have m17 := PySem.W.mg_of X G a17
  have m18 := PySem.W.mg_of X G a18
  have m19 := PySem.W.mg_of X G a19
  have m20 := PySem.W.mg_of X G a20
  have m21 := PySem.W.mg_of X G a21
  have m22 := PySem.W.mg_of X G a22
  have m23 := PySem.W.mg_of X G a23
  have m24 := PySem.W.mg_of X G a24
  have m25 := PySem.W.mg_of X G a25
  have m26 := PySem.W.mg_of X G a26
  have m27 := PySem.W.mg_of X G a27
  refine ⟨PySem.W.fnOf "law" "law" (defArgs law.st) (defBody law.st) (defScope law.st) .none kV27 dc27 pm27 an27 cd27 ct27, fun s v => .of_eq rfl, fun base _ _ => law_imp ?_⟩
  have O0 : FnOk l.prog w K mg base (L2.CX l.prog w) 1 f0 (PySem.W.fnOf "is_whole" "is_whole" (defArgs is_whole.st) (defBody is_whole.st) (defScope is_whole.st) .none kV0 dc0 pm0 an0 cd0 ct0) ["value"] (spOf K mg 1 sp_whole) := def_ok F0 is_whole.sc rfl (GamOk.nil) rfl (by intro x hx; simp only [is_whole.ck, List.mem_cons, List.not_mem_nil, or_false] at hx; rcases hx with rfl | rfl | rfl <;> assumption) ⟨fun p hp => (by cases hp), fun p hp => (by cases hp)⟩ is_whole.chk is_whole.hl w_whole
  have O1 : FnOk l.prog w K mg base (L2.CX l.prog w) 2 f1 (PySem.W.fnOf "is_row" "is_row" (defArgs is_row.st) (defBody is_row.st) (defScope is_row.st) .none kV1 dc1 pm1 an1 cd1 ct1) ["value", "size"] (spOf K mg 2 sp_row) := def_ok F1 is_row.sc rfl (GamOk.cons rfl O0 (by decide) m0 F0.kp b0 (GamOk.nil)) rfl (by intro x hx; simp only [is_row.ck, List.mem_cons, List.not_mem_nil, or_false] at hx; rcases hx with rfl | rfl | rfl <;> assumption) ⟨fun p hp => (by cases hp), fun p hp => (by cases hp)⟩ is_row.chk is_row.hl w_row
  have O2 : FnOk l.prog w K mg base (L2.CX l.prog w) 1 f2 (PySem.W.fnOf "zeros" "zeros" (defArgs zeros.st) (defBody zeros.st) (defScope zeros.st) .none kV2 dc2 pm2 an2 cd2 ct2) ["size"] (spOf K mg 1 sp_zeros) := def_ok F2 zeros.sc rfl (GamOk.nil) rfl (fun x hx => by cases hx) ⟨fun p hp => (by cases hp), fun p hp => (by cases hp)⟩ zeros.chk zeros.hl w_zeros
  have O3 : FnOk l.prog w K mg base (L2.CX l.prog w) 1 f3 (PySem.W.fnOf "unit" "unit" (defArgs unit.st) (defBody unit.st) (defScope unit.st) .none kV3 dc3 pm3 an3 cd3 ct3) ["size", "place"] (spOf K mg 2 sp_unit) := def_ok F3 unit.sc rfl (GamOk.nil) rfl (fun x hx => by cases hx) ⟨fun p hp => (by cases hp), fun p hp => (by cases hp)⟩ unit.chk unit.hl w_unit
  have O4 : FnOk l.prog w K mg base (L2.CX l.prog w) 1 f4 (PySem.W.fnOf "plus_rows" "plus_rows" (defArgs plus_rows.st) (defBody plus_rows.st) (defScope plus_rows.st) .none kV4 dc4 pm4 an4 cd4 ct4) ["one", "other"] (spOf K mg 2 (sp_zip fun a b => a + b)) := def_ok F4 plus_rows.sc rfl (GamOk.nil) rfl (by intro x hx; simp only [plus_rows.ck, List.mem_cons, List.not_mem_nil, or_false] at hx; rcases hx with rfl | rfl <;> assumption) ⟨fun p hp => (by cases hp), fun p hp => (by cases hp)⟩ plus_rows.chk plus_rows.hl w_plus
  have O5 : FnOk l.prog w K mg base (L2.CX l.prog w) 1 f5 (PySem.W.fnOf "less_rows" "less_rows" (defArgs less_rows.st) (defBody less_rows.st) (defScope less_rows.st) .none kV5 dc5 pm5 an5 cd5 ct5) ["one", "other"] (spOf K mg 2 (sp_zip fun a b => a - b)) := def_ok F5 less_rows.sc rfl (GamOk.nil) rfl (by intro x hx; simp only [less_rows.ck, List.mem_cons, List.not_mem_nil, or_false] at hx; rcases hx with rfl | rfl <;> assumption) ⟨fun p hp => (by cases hp), fun p hp => (by cases hp)⟩ less_rows.chk less_rows.hl w_less
  have O6 : FnOk l.prog w K mg base (L2.CX l.prog w) 1 f6 (PySem.W.fnOf "scaled" "scaled" (defArgs scaled.st) (defBody scaled.st) (defScope scaled.st) .none kV6 dc6 pm6 an6 cd6 ct6) ["row", "factor"] (spOf K mg 2 sp_scaled) := def_ok F6 scaled.sc rfl (GamOk.nil) rfl (by intro x hx; simp only [scaled.ck, List.mem_cons, List.not_mem_nil, or_false] at hx; rcases hx with rfl <;> assumption) ⟨fun p hp => (by cases hp), fun p hp => (by cases hp)⟩ scaled.chk scaled.hl w_scaled
  have O7 : FnOk l.prog w K mg base (L2.CX l.prog w) 1 f7 (PySem.W.fnOf "shared" "shared" (defArgs shared.st) (defBody shared.st) (defScope shared.st) .none kV7 dc7 pm7 an7 cd7 ct7) ["one", "other"] (spOf K mg 2 (sp_zip mn)) := def_ok F7 shared.sc rfl (GamOk.nil) rfl (by intro x hx; simp only [shared.ck, List.mem_cons, List.not_mem_nil, or_false] at hx; rcases hx with rfl | rfl <;> assumption) ⟨fun p hp => (by cases hp), fun p hp => (by cases hp)⟩ shared.chk shared.hl w_shared
  have O8 : FnOk l.prog w K mg base (L2.CX l.prog w) 1 f8 (PySem.W.fnOf "upper" "upper" (defArgs upper.st) (defBody upper.st) (defScope upper.st) .none kV8 dc8 pm8 an8 cd8 ct8) ["one", "other"] (spOf K mg 2 (sp_zip mx)) := def_ok F8 upper.sc rfl (GamOk.nil) rfl (by intro x hx; simp only [upper.ck, List.mem_cons, List.not_mem_nil, or_false] at hx; rcases hx with rfl | rfl <;> assumption) ⟨fun p hp => (by cases hp), fun p hp => (by cases hp)⟩ upper.chk upper.hl w_upper
  have O9 : FnOk l.prog w K mg base (L2.CX l.prog w) 1 f9 (PySem.W.fnOf "within" "within" (defArgs within.st) (defBody within.st) (defScope within.st) .none kV9 dc9 pm9 an9 cd9 ct9) ["one", "other"] (spOf K mg 2 sp_within) := def_ok F9 within.sc rfl (GamOk.nil) rfl (by intro x hx; simp only [within.ck, List.mem_cons, List.not_mem_nil, or_false] at hx; rcases hx with rfl <;> assumption) ⟨fun p hp => (by cases hp), fun p hp => (by cases hp)⟩ within.chk within.hl w_within
  have O10 : FnOk l.prog w K mg base (L2.CX l.prog w) 1 f10 (PySem.W.fnOf "meet" "meet" (defArgs meet.st) (defBody meet.st) (defScope meet.st) .none kV10 dc10 pm10 an10 cd10 ct10) ["one", "other"] (spOf K mg 2 sp_meet) := def_ok F10 meet.sc rfl (GamOk.nil) rfl (by intro x hx; simp only [meet.ck, List.mem_cons, List.not_mem_nil, or_false] at hx; rcases hx with rfl <;> assumption) ⟨fun p hp => (by cases hp), fun p hp => (by cases hp)⟩ meet.chk meet.hl w_meet
  have O11 : FnOk l.prog w K mg base (L2.CX l.prog w) 1 f11 (PySem.W.fnOf "total" "total" (defArgs total.st) (defBody total.st) (defScope total.st) .none kV11 dc11 pm11 an11 cd11 ct11) ["row"] (spOf K mg 1 sp_total) := def_ok F11 total.sc rfl (GamOk.nil) rfl (by intro x hx; simp only [total.ck, List.mem_cons, List.not_mem_nil, or_false] at hx; rcases hx with rfl <;> assumption) ⟨fun p hp => (by cases hp), fun p hp => (by cases hp)⟩ total.chk total.hl w_total
  have O12 : FnOk l.prog w K mg base (L2.CX l.prog w) 1 f12 (PySem.W.fnOf "dot" "dot" (defArgs dot.st) (defBody dot.st) (defScope dot.st) .none kV12 dc12 pm12 an12 cd12 ct12) ["one", "other"] (spOf K mg 2 sp_dot) := def_ok F12 dot.sc rfl (GamOk.nil) rfl (by intro x hx; simp only [dot.ck, List.mem_cons, List.not_mem_nil, or_false] at hx; rcases hx with rfl | rfl <;> assumption) ⟨fun p hp => (by cases hp), fun p hp => (by cases hp)⟩ dot.chk dot.hl w_dot
  have O13 : FnOk l.prog w K mg base (L2.CX l.prog w) 1 f13 (PySem.W.fnOf "support" "support" (defArgs support.st) (defBody support.st) (defScope support.st) .none kV13 dc13 pm13 an13 cd13 ct13) ["row"] (spOf K mg 1 sp_support) := def_ok F13 support.sc rfl (GamOk.nil) rfl (by intro x hx; simp only [support.ck, List.mem_cons, List.not_mem_nil, or_false] at hx; rcases hx with rfl | rfl <;> assumption) ⟨fun p hp => (by cases hp), fun p hp => (by cases hp)⟩ support.chk support.hl w_support
  have O14 : FnOk l.prog w K mg base (L2.CX l.prog w) 1 f14 (PySem.W.fnOf "_law_begin" "_law_begin" (defArgs law_begin.st) (defBody law_begin.st) (defScope law_begin.st) .none kV14 dc14 pm14 an14 cd14 ct14) ["script"] (spOf K mg 1 sp_begin) := def_ok F14 law_begin.sc rfl (GamOk.nil) rfl (by intro x hx; simp only [law_begin.ck, List.mem_cons, List.not_mem_nil, or_false] at hx; rcases hx with rfl <;> assumption) ⟨fun p hp => (by cases hp), fun p hp => (by cases hp)⟩ law_begin.chk law_begin.hl w_begin
  have O15 : FnOk l.prog w K mg base (L2.CX l.prog w) 1 f15 (PySem.W.fnOf "_law_draw" "_law_draw" (defArgs law_draw.st) (defBody law_draw.st) (defScope law_draw.st) .none kV15 dc15 pm15 an15 cd15 ct15) ["d", "many"] (spOf K mg 2 sp_draw) := def_ok F15 law_draw.sc rfl (GamOk.nil) rfl (by intro x hx; simp only [law_draw.ck, List.mem_cons, List.not_mem_nil, or_false] at hx; rcases hx with rfl | rfl | rfl <;> assumption) ⟨fun p hp => (by cases hp), fun p hp => (by cases hp)⟩ law_draw.chk law_draw.hl w_draw
  have O16 : FnOk l.prog w K mg base (L2.CX l.prog w) 2 f16 (PySem.W.fnOf "_law_rare" "_law_rare" (defArgs law_rare.st) (defBody law_rare.st) (defScope law_rare.st) .none kV16 dc16 pm16 an16 cd16 ct16) ["d", "many"] (spOf K mg 2 sp_rare) := def_ok F16 law_rare.sc rfl (GamOk.cons rfl O15 (by decide) m15 F15.kp b15 (GamOk.nil)) rfl (fun x hx => by cases hx) ⟨fun p hp => (by cases hp), fun p hp => (by cases hp)⟩ law_rare.chk law_rare.hl w_rare
  have O17 : FnOk l.prog w K mg base (L2.CX l.prog w) 1 f17 (PySem.W.fnOf "_law_is_int" "_law_is_int" (defArgs law_is_int.st) (defBody law_is_int.st) (defScope law_is_int.st) .none kV17 dc17 pm17 an17 cd17 ct17) ["thing"] (spOf K mg 1 sp_whole) := def_ok F17 law_is_int.sc rfl (GamOk.nil) rfl (by intro x hx; simp only [law_is_int.ck, List.mem_cons, List.not_mem_nil, or_false] at hx; rcases hx with rfl | rfl | rfl <;> assumption) ⟨fun p hp => (by cases hp), fun p hp => (by cases hp)⟩ law_is_int.chk law_is_int.hl w_whole'
  have O18 : FnOk l.prog w K mg base (L2.CX l.prog w) 2 f18 (PySem.W.fnOf "_law_is_ints" "_law_is_ints" (defArgs law_is_ints.st) (defBody law_is_ints.st) (defScope law_is_ints.st) .none kV18 dc18 pm18 an18 cd18 ct18) ["thing", "size", "least"] (spOf K mg 3 sp_ints) := def_ok F18 law_is_ints.sc rfl (GamOk.cons rfl O17 (by decide) m17 F17.kp b17 (GamOk.nil)) rfl (by intro x hx; simp only [law_is_ints.ck, List.mem_cons, List.not_mem_nil, or_false] at hx; rcases hx with rfl | rfl | rfl | rfl <;> assumption) ⟨fun p hp => (by cases hp), fun p hp => (by cases hp)⟩ law_is_ints.chk law_is_ints.hl w_ints
  have O19 : FnOk l.prog w K mg base (L2.CX l.prog w) 2 f19 (PySem.W.fnOf "_law_number" "_law_number" (defArgs law_number.st) (defBody law_number.st) (defScope law_number.st) .none kV19 dc19 pm19 an19 cd19 ct19) ["d"] (spOf K mg 1 sp_number) := def_ok F19 law_number.sc rfl (GamOk.cons rfl O15 (by decide) m15 F15.kp b15 (GamOk.nil)) rfl (by intro x hx; simp only [law_number.ck, List.mem_cons, List.not_mem_nil, or_false] at hx; rcases hx with rfl <;> assumption) ⟨fun p hp => (by cases hp), fun p hp => (by cases hp)⟩ law_number.chk law_number.hl w_number
  have O20 : FnOk l.prog w K mg base (L2.CX l.prog w) 3 f20 (PySem.W.fnOf "_law_part" "_law_part" (defArgs law_part.st) (defBody law_part.st) (defScope law_part.st) .none kV20 dc20 pm20 an20 cd20 ct20) ["d"] (spOf K mg 1 sp_part) := def_ok F20 law_part.sc rfl (GamOk.cons rfl O15 (by decide) m15 F15.kp b15 (GamOk.cons rfl O19 (by decide) m19 F19.kp b19 (GamOk.nil))) rfl (fun x hx => by cases hx) ⟨fun p hp => (by cases hp), fun p hp => (by cases hp)⟩ law_part.chk law_part.hl w_part
  have O21 : FnOk l.prog w K mg base (L2.CX l.prog w) 4 f21 (PySem.W.fnOf "_law_rows" "_law_rows" (defArgs law_rows.st) (defBody law_rows.st) (defScope law_rows.st) .none kV21 dc21 pm21 an21 cd21 ct21) ["d", "size"] (spOf K mg 2 sp_rows) := def_ok F21 law_rows.sc rfl (GamOk.cons rfl O20 (by decide) m20 F20.kp b20 (GamOk.cons rfl O15 (by decide) m15 F15.kp b15 (GamOk.nil))) rfl (by intro x hx; simp only [law_rows.ck, List.mem_cons, List.not_mem_nil, or_false] at hx; rcases hx with rfl | rfl <;> assumption) ⟨fun p hp => (by cases hp), fun p hp => (by cases hp)⟩ law_rows.chk law_rows.hl w_rows
  have O22 : FnOk l.prog w K mg base (L2.CX l.prog w) 2 f22 (PySem.W.fnOf "_law_same_row" "_law_same_row" (defArgs law_same_row.st) (defBody law_same_row.st) (defScope law_same_row.st) .none kV22 dc22 pm22 an22 cd22 ct22) ["told", "due"] (spOf K mg 2 sp_same) := def_ok F22 law_same_row.sc rfl (GamOk.cons rfl O17 (by decide) m17 F17.kp b17 (GamOk.nil)) rfl (by intro x hx; simp only [law_same_row.ck, List.mem_cons, List.not_mem_nil, or_false] at hx; rcases hx with rfl | rfl | rfl | rfl | rfl <;> assumption) ⟨fun p hp => (by cases hp), fun p hp => (by cases hp)⟩ law_same_row.chk law_same_row.hl w_same
  have O23 : FnOk l.prog w K mg base (L2.CX l.prog w) 3 f23 (PySem.W.fnOf "_law_pair_right" "_law_pair_right" (defArgs law_pair_right.st) (defBody law_pair_right.st) (defScope law_pair_right.st) .none kV23 dc23 pm23 an23 cd23 ct23) ["one", "other"] (spOf K mg 2 sp_pair) := def_ok F23 law_pair_right.sc rfl (GamOk.cons rfl O22 (by decide) m22 F22.kp b22 (GamOk.cons rfl O4 (by decide) m4 F4.kp b4 (GamOk.cons rfl O5 (by decide) m5 F5.kp b5 (GamOk.cons rfl O7 (by decide) m7 F7.kp b7 (GamOk.cons rfl O8 (by decide) m8 F8.kp b8 (GamOk.cons rfl O9 (by decide) m9 F9.kp b9 (GamOk.cons rfl O10 (by decide) m10 F10.kp b10 (GamOk.cons rfl O12 (by decide) m12 F12.kp b12 (GamOk.cons rfl O17 (by decide) m17 F17.kp b17 (GamOk.nil)))))))))) rfl (by intro x hx; simp only [law_pair_right.ck, List.mem_cons, List.not_mem_nil, or_false] at hx; rcases hx with rfl | rfl | rfl | rfl | rfl | rfl | rfl | rfl | rfl | rfl <;> assumption) ⟨fun p hp => (by cases hp), fun p hp => (by cases hp)⟩ law_pair_right.chk law_pair_right.hl w_pair
  have O24 : FnOk l.prog w K mg base (L2.CX l.prog w) 3 f24 (PySem.W.fnOf "_law_alone_right" "_law_alone_right" (defArgs law_alone_right.st) (defBody law_alone_right.st) (defScope law_alone_right.st) .none kV24 dc24 pm24 an24 cd24 ct24) ["row", "factor"] (spOf K mg 2 sp_alone) := def_ok F24 law_alone_right.sc rfl (GamOk.cons rfl O11 (by decide) m11 F11.kp b11 (GamOk.cons rfl O17 (by decide) m17 F17.kp b17 (GamOk.cons rfl O22 (by decide) m22 F22.kp b22 (GamOk.cons rfl O6 (by decide) m6 F6.kp b6 (GamOk.cons rfl O13 (by decide) m13 F13.kp b13 (GamOk.nil)))))) rfl (by intro x hx; simp only [law_alone_right.ck, List.mem_cons, List.not_mem_nil, or_false] at hx; rcases hx with rfl | rfl | rfl | rfl <;> assumption) ⟨fun p hp => (by cases hp), fun p hp => (by cases hp)⟩ law_alone_right.chk law_alone_right.hl w_alone
  have O25 : FnOk l.prog w K mg base (L2.CX l.prog w) 2 f25 (PySem.W.fnOf "_law_odd" "_law_odd" (defArgs law_odd.st) (defBody law_odd.st) (defScope law_odd.st) .none kV25 dc25 pm25 an25 cd25 ct25) ["d", "row"] (spOf K mg 2 sp_odd) := def_ok F25 law_odd.sc rfl (GamOk.cons rfl O15 (by decide) m15 F15.kp b15 (GamOk.nil)) rfl (by intro x hx; simp only [law_odd.ck, List.mem_cons, List.not_mem_nil, or_false] at hx; rcases hx with rfl | rfl | rfl <;> assumption) ⟨fun p hp => (by cases hp), fun p hp => (by cases hp)⟩ law_odd.chk law_odd.hl w_odd
  have O26 : FnOk l.prog w K mg base (L2.CX l.prog w) 2 f26 (PySem.W.fnOf "_law_changed" "_law_changed" (defArgs law_changed.st) (defBody law_changed.st) (defScope law_changed.st) .none kV26 dc26 pm26 an26 cd26 ct26) ["d", "row"] (spOf K mg 2 sp_changed) := def_ok F26 law_changed.sc rfl (GamOk.cons rfl O15 (by decide) m15 F15.kp b15 (GamOk.nil)) rfl (by intro x hx; simp only [law_changed.ck, List.mem_cons, List.not_mem_nil, or_false] at hx; rcases hx with rfl <;> assumption) ⟨fun p hp => (by cases hp), fun p hp => (by cases hp)⟩ law_changed.chk law_changed.hl w_changed
  have O27 : FnOk l.prog w K mg base (L2.CX l.prog w) 5 fa (PySem.W.fnOf "law" "law" (defArgs law.st) (defBody law.st) (defScope law.st) .none kV27 dc27 pm27 an27 cd27 ct27) ["script"] (spOf K mg 1 sp_law) := def_ok F27 law.sc rfl (GamOk.cons rfl O14 (by decide) m14 F14.kp b14 (GamOk.cons rfl O15 (by decide) m15 F15.kp b15 (GamOk.cons rfl O16 (by decide) m16 F16.kp b16 (GamOk.cons rfl O21 (by decide) m21 F21.kp b21 (GamOk.cons rfl O26 (by decide) m26 F26.kp b26 (GamOk.cons rfl O23 (by decide) m23 F23.kp b23 (GamOk.cons rfl O20 (by decide) m20 F20.kp b20 (GamOk.cons rfl O24 (by decide) m24 F24.kp b24 (GamOk.cons rfl O22 (by decide) m22 F22.kp b22 (GamOk.cons rfl O2 (by decide) m2 F2.kp b2 (GamOk.cons rfl O3 (by decide) m3 F3.kp b3 (GamOk.cons rfl O25 (by decide) m25 F25.kp b25 (GamOk.cons rfl O1 (by decide) m1 F1.kp b1 (GamOk.cons rfl O18 (by decide) m18 F18.kp b18 (GamOk.nil))))))))))))))) rfl (by intro x hx; simp only [law.ck, List.mem_cons, List.not_mem_nil, or_false] at hx; rcases hx with rfl | rfl | rfl | rfl | rfl | rfl | rfl | rfl | rfl <;> assumption) ⟨fun p hp => (by cases hp), fun p hp => (by cases hp)⟩ law.chk law.hl w_law
  exact O27
end
end K02

set_option Elab.async false
set_option linter.all false
set_option maxRecDepth 100000
open PySem PySem.W PyProof.Rows
set_option maxHeartbeats 0 in
theorem PySem.Challenge.cw_shelfmill_k02_rows_holds : PySem.Challenge.rw_shelfmill_k02_rows.Holds := by
  w_on; o_law; k_head; (case hw => w_witness2)
  k_fill
  refine L2.walk_of (l := PySem.Challenge.rw_shelfmill_k02_rows) (n := 63) (k := 5) (x := "script") (CX := fun w => L2.CX PySem.Challenge.rw_shelfmill_k02_rows.prog w) (sp := fun w => Pd.spLaw _ 63) rfl (by decide) rfl ⟨rfl, by decide, by decide⟩ (fun w h Y => PySem.W.kIn_of Y) ?F (fun _ _ a ns hl _ hS => ⟨a, ns, rfl, hS, hl, fun _ => rfl⟩) (fun _ _ _ _ _ h => (by obtain ⟨_, _, _, _, _, _, _, _, _, _, _, _, z⟩ := h; exact z))
  case F =>
    intro w mg fa h KX G hmg
    refine' K02.all_mk KX G hmg ?a0 ?l0 ?c0 ?k0 ?a1 ?l1 ?c1 ?k1 ?a2 ?l2 ?c2 ?k2 ?a3 ?l3 ?c3 ?k3 ?a4 ?l4 ?c4 ?k4 ?a5 ?l5 ?c5 ?k5 ?a6 ?l6 ?c6 ?k6 ?a7 ?l7 ?c7 ?k7 ?a8 ?l8 ?c8 ?k8 ?a9 ?l9 ?c9 ?k9 ?a10 ?l10 ?c10 ?k10 ?a11 ?l11 ?c11 ?k11 ?a12 ?l12 ?c12 ?k12 ?a13 ?l13 ?c13 ?k13 ?a14 ?l14 ?c14 ?k14 ?a15 ?l15 ?c15 ?k15 ?a16 ?l16 ?c16 ?k16 ?a17 ?l17 ?c17 ?k17 ?a18 ?l18 ?c18 ?k18 ?a19 ?l19 ?c19 ?k19 ?a20 ?l20 ?c20 ?k20 ?a21 ?l21 ?c21 ?k21 ?a22 ?l22 ?c22 ?k22 ?a23 ?l23 ?c23 ?k23 ?a24 ?l24 ?c24 ?k24 ?a25 ?l25 ?c25 ?k25 ?a26 ?l26 ?c26 ?k26 ?a27 ?l27 ?c27 ?k27 ?z0 ?z1 ?z2 ?z3 ?z4 ?z5 ?z6 ?z7 ?z8 ?z9 ?z10 ?z11 ?z12 ?z13 ?z14
    (case a0 => k_is); (case l0 => k_is); (case c0 => k_is); (case k0 => k_is); (case a1 => k_is); (case l1 => k_is); (case c1 => k_is); (case k1 => k_is); (case a2 => k_is); (case l2 => k_is); (case c2 => k_is); (case k2 => k_is); (case a3 => k_is); (case l3 => k_is); (case c3 => k_is); (case k3 => k_is); (case a4 => k_is); (case l4 => k_is); (case c4 => k_is); (case k4 => k_is); (case a5 => k_is); (case l5 => k_is); (case c5 => k_is); (case k5 => k_is); (case a6 => k_is); (case l6 => k_is); (case c6 => k_is); (case k6 => k_is); (case a7 => k_is); (case l7 => k_is); (case c7 => k_is); (case k7 => k_is); (case a8 => k_is); (case l8 => k_is); (case c8 => k_is); (case k8 => k_is); (case a9 => k_is); (case l9 => k_is); (case c9 => k_is); (case k9 => k_is); (case a10 => k_is); (case l10 => k_is); (case c10 => k_is); (case k10 => k_is); (case a11 => k_is); (case l11 => k_is); (case c11 => k_is); (case k11 => k_is); (case a12 => k_is); (case l12 => k_is); (case c12 => k_is); (case k12 => k_is); (case a13 => k_is); (case l13 => k_is); (case c13 => k_is); (case k13 => k_is); (case a14 => k_is); (case l14 => k_is); (case c14 => k_is); (case k14 => k_is); (case a15 => k_is); (case l15 => k_is); (case c15 => k_is); (case k15 => k_is); (case a16 => k_is); (case l16 => k_is); (case c16 => k_is); (case k16 => k_is); (case a17 => k_is); (case l17 => k_is); (case c17 => k_is); (case k17 => k_is); (case a18 => k_is); (case l18 => k_is); (case c18 => k_is); (case k18 => k_is); (case a19 => k_is); (case l19 => k_is); (case c19 => k_is); (case k19 => k_is); (case a20 => k_is); (case l20 => k_is); (case c20 => k_is); (case k20 => k_is); (case a21 => k_is); (case l21 => k_is); (case c21 => k_is); (case k21 => k_is); (case a22 => k_is); (case l22 => k_is); (case c22 => k_is); (case k22 => k_is); (case a23 => k_is); (case l23 => k_is); (case c23 => k_is); (case k23 => k_is); (case a24 => k_is); (case l24 => k_is); (case c24 => k_is); (case k24 => k_is); (case a25 => k_is); (case l25 => k_is); (case c25 => k_is); (case k25 => k_is); (case a26 => k_is); (case l26 => k_is); (case c26 => k_is); (case k26 => k_is); (case a27 => k_is); (case l27 => k_is); (case c27 => k_is); (case k27 => k_is); (case z0 => k_is); (case z1 => k_is); (case z2 => k_is); (case z3 => k_is); (case z4 => k_is); (case z5 => k_is); (case z6 => k_is); (case z7 => k_is); (case z8 => k_is); (case z9 => k_is); (case z10 => k_is); (case z11 => k_is); (case z12 => k_is); (case z13 => k_is); (case z14 => k_is)

