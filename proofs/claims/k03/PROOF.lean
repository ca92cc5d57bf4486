import PyProof.Rows.All
import Wide.All
import OpenK.AllK
import Wide.FinOn
import HandS.ForMost
import HandS.Walk
import HandS.IsInst
import HandS.Evl
import KE.KTupSum
import KE.GoesMore
import PySem.Challenge.RW_servedalone_k03_greatest_and_by_number
set_option Elab.async false
set_option linter.all false
set_option maxRecDepth 100000
set_option maxHeartbeats 4000000
namespace L2
open PySem PySem.Spec PyProof.Rows

/-! ### own rules: either of two readings; sums, enumerate and walks of lists or tuples -/
theorem PI.or {X : Cx} {tg iter : Expr} {w1 w2 : TI} (h1 : PI X tg iter w1) (h2 : PI X tg iter w2) : PI X tg iter (fun σ H R => w1 σ H R ∨ w2 σ H R) := by
  refine ⟨fun pins s σ H R I h => ?_⟩
  rcases h with h | h
  · exact h1.run pins s σ H R I h
  · exact h2.run pins s σ H R I h

section
variable {X : Cx}
def rAddG (K : PySem.W.Frag) : R2 := fun x y H Q => (rI0 fun i j => .int (i + j)) x y H Q ∨ rCatT K x y H Q ∨ rCat x y H Q
theorem op_addG : OpR X (binaryOp .Add) (rAddG X.K) := op_add.or (op_catT.or op_cat)
def rEqG (K : PySem.W.Frag) : R2 := fun x y H Q => rEq x y H Q ∨ rEqD K x y H Q
def rNeG (K : PySem.W.Frag) : R2 := fun x y H Q => rNe x y H Q ∨ rNeD K x y H Q
theorem op_eqG (hu : X.A.units + 64 < cLine) : OpR X (compareOp .Eq) (rEqG X.K) := op_eq.or (op_eqD hu)
theorem op_neG (hu : X.A.units + 64 < cLine) : OpR X (compareOp .NotEq) (rNeG X.K) := op_ne.or (op_neD hu)
def rSlG (K : PySem.W.Frag) : V → Option Int → Option Int → Hp → VK → Prop := fun x lo hi H Q => rSlL K x lo hi H Q ∨ rSlT K x lo hi H Q
theorem sl_seqG : SlR X (rSlG X.K) := sl_list.or sl_tup
def rSumS (K : PySem.W.Frag) : List V → Hp → VK → Prop := fun vs H Q => ∃ (a : Addr) (ns : List Int), vs = [V.ref a] ∧ (SqL K H a (ns.map V.int) ∨ SqT K H a (ns.map V.int)) ∧ Q (.int ns.sum) H
theorem cr_sumS (hc : X.calm = true) : CallR X (.builtin "sum") (rSumS X.K) := by
  intro pins s σ H vs us Q I r h
  obtain ⟨a, ns, rfl, hs, q⟩ := h
  rw [Vals.ref1 r]
  rcases hs with hs | hs
  · obtain ⟨its, rv, hl, _⟩ := I.list hs
    exact sum_raw (I.ok.hd hc) hl.isList rv.ints fun h' tk t' hk => ⟨.int _, H, I.kept hk, ⟨_, rfl⟩, q⟩
  · obtain ⟨its, rv, ht, _⟩ := I.tuple hs
    have hi := rv.ints
    obtain ⟨xs, e⟩ := hi.allInts.items
    have hn : numsOf (intItems xs).toList = ns := by rw [← e]; exact hi.numsOf
    rw [nums_intItems] at hn
    have ht' : s.heap.IsTuple a its.toArray := ht
    rw [e] at ht'
    refine PySem.W.ktm_sumG (I.ok.hd hc) ht' fun h' tk t' hk => ⟨.int ns.sum, H, I.kept hk, ⟨t', ?_⟩, q⟩
    rw [preSum_eq, List.take_of_length_le (by simp), hn]

end

/-! ### enumerate(tuple) -/
def IteT (K : PySem.W.Frag) (a : Addr) : It :=
  ⟨fun i H => ∃ (xs : List V) (x : V), SqT K H a xs ∧ xs[i]? = some x, fun i H v H' => ∃ T x, v = .ref T ∧ H T = none ∧ H' = upd H T (.tup [.int (i : Nat), x]) ∧ ∀ xs, SqT K H a xs → xs[i]? = some x, fun i H => ∃ xs : List V, SqT K H a xs ∧ xs.length ≤ i⟩
theorem tup_ne_iter {h : Heap} {a it : Addr} {items : Array Value} {i : Nat} (p : IsTup h a items) (q : h.IsTupleIter it a i) : a ≠ it := by
  obtain ⟨o, ho, hc, _⟩ := p
  obtain ⟨o', ho', hc', _⟩ := q
  intro e
  subst e
  rw [ho] at ho'
  cases ho'
  rw [hc] at hc'
  exact absurd hc' (by decide)
theorem meets_enumerate_newT (l : Addr) (items : Array Value) :
    Meets (Builtin.«enumerate.__new__» ⟨[.type "enumerate", .ref l], []⟩) (fun _ R s => s.heap.IsTuple l items ∧
      R (.ok (.ret (.ref (s.heap.push { cls := .type "tuple_iterator", data := .fields #[.ref l, .int 0 0] }).objs.size)))
        { s with heap := (s.heap.push { cls := .type "tuple_iterator", data := .fields #[.ref l, .int 0 0] }).push { cls := .type "enumerate", data := .fields #[.none, .bool false, .ref s.heap.objs.size, rawInt 0, .none, .none] } }) :=
  .of_wp fun prog w A R s h => by
    obtain ⟨hp, g, d, tk, os⟩ := s; obtain ⟨h1, h⟩ := h
    have hsub := sub_enumerate
    have q1 : ∀ {A' : Around} {E : Value → Shared → Prop} {Q : Value → Shared → Prop}, Q (.ref hp.objs.size) ⟨hp.push { cls := .type "tuple_iterator", data := .fields #[.ref l, .int 0 0] }, g, d, tk, os⟩ → wpAny (model prog w) A' (pyIter (.ref l)) Q E ⟨hp, g, d, tk, os⟩ :=
      fun q => wpAny_pyIter_tuple (s := ⟨hp, g, d, tk, os⟩) h1 q
    wp_walk using q1
    refine wpAny_stack_any fun st => wpAny_pure ?_
    split
    · rename_i c _ _ _ _ _
      cases (c == Value.type "enumerate")
      · wp_walk using q1
        exact ⟨_, rfl, h⟩
      · wp_walk using q1
        exact ⟨_, rfl, h⟩
    · wp_walk using q1
      exact ⟨_, rfl, h⟩
theorem call_enumerate_tup {prog : Program} {w : World} {A : Around} {E : Value → Shared → Prop} {s : Shared} {l : Addr} {items : Array Value} {Q : Value → Shared → Prop} (hL : s.heap.IsTuple l items)
    (h : ∀ h', IsEnum h' (s.heap.objs.size + 1) s.heap.objs.size 0 .none → h'.IsTupleIter s.heap.objs.size l 0 → h'.objs.size = s.heap.objs.size + 2 →
      (∀ b o, s.heap.get? b = some o → h'.get? b = some o) → Q (.ref (s.heap.objs.size + 1)) { s with heap := h' }) :
    wpAny (model prog w) A (call (.type "enumerate") [.ref l]) Q E s := by
  refine callType_new F.called_enumerate (by decide) (F.typeCall_enumerate_1 _) (F.newCall_enumerate_1 _) (fun obj => F.args_object_init_2 obj _) F.entry_enumerate_new
    (meets_enumerate_newT l items) ⟨hL, ?_⟩
  have hz : (s.heap.push { cls := .type "tuple_iterator", data := .fields #[.ref l, .int 0 0] }).objs.size = s.heap.objs.size + 1 := Heap.size_push ..
  show _ ∧ _
  rw [hz]
  have he : IsEnum ((s.heap.push { cls := .type "tuple_iterator", data := .fields #[.ref l, .int 0 0] }).push
      { cls := .type "enumerate", data := .fields #[.none, .bool false, .ref s.heap.objs.size, rawInt 0, .none, .none] }) (s.heap.objs.size + 1) s.heap.objs.size 0 .none := by
    have := Heap.get?_push_size (s.heap.push { cls := .type "tuple_iterator", data := .fields #[.ref l, .int 0 0] })
      (o := { cls := .type "enumerate", data := .fields #[.none, .bool false, .ref s.heap.objs.size, rawInt 0, .none, .none] }) rfl
    rw [hz] at this; exact this
  refine ⟨⟨_, he, rfl⟩, h _ he ⟨_, Heap.get?_push_of_some _ (Heap.get?_push_size _ rfl), rfl, rfl⟩ (by rw [Heap.size_push, hz]) fun b o x => Heap.get?_push_of_some _ (Heap.get?_push_of_some _ x)⟩
theorem turn_enumT {P : Program} {w : World} {K : PySem.W.Frag} {elts : List Expr} {kk : Nat} {tpos : Pos} (a e it : Addr) :
    Turn P w K (.Tuple elts kk tpos) (IteT K a) [e, it] e (fun i h => (∃ old, IsEnum h e it ((i : Nat) : Int) old) ∧ h.IsTupleIter it a i ∧ e ≠ it) where
  mem := by simp
  obj := fun i h st b hb => by
    obtain ⟨⟨old, he⟩, ⟨o, ho, hc, hd⟩, _⟩ := st
    have e' : b = e ∨ b = it := by simpa using hb
    rcases e' with z | z
    · rw [z]; exact ⟨_, he, fun v q => nomatch q⟩
    · rw [z]; exact ⟨o, ho, fun v q => by rw [hd] at q; cases q⟩
  keep := fun i h h' st k => let ⟨⟨old, he⟩, hi, hne⟩ := st; ⟨⟨old, k e (by simp) _ he⟩, hi.at fun o q => k it (by simp) o q, hne⟩
  item := by
    intro X hP hw hK hc i pins s σ H E I hf st hg
    subst hP hw hK
    obtain ⟨⟨old, he⟩, hit, hne⟩ := st
    obtain ⟨xs, x, hq, hx⟩ := hg
    obtain ⟨its, rv, p, hz⟩ := I.tuple hq
    obtain ⟨u, hu, ru⟩ := rv.get hx
    have hai : a ≠ it := tup_ne_iter p hit
    have hel : e < s.heap.objs.size := Heap.lt_size he
    have hil : it < s.heap.objs.size := by obtain ⟨_, q, _⟩ := hit; exact Heap.lt_size q
    have hal : a < s.heap.objs.size := by obtain ⟨_, q, _⟩ := p; exact Heap.lt_size q
    have hae : e ≠ a := by
      obtain ⟨o, ho, hcl, _⟩ := id p
      intro z
      rw [← z, he] at ho
      cases ho
      have hcl' : (Value.type "enumerate") = Value.type "tuple" := hcl
      exact absurd hcl' (by decide)
    have hlt : i < its.toArray.size := by
      have h1 := (List.getElem?_eq_some_iff.mp hu).1
      simpa using h1
    refine wpAny_pyNext_enum_itemD (Draws.tuple (prog := X.prog) (w := X.w) (A := X.A.in1) (show X.A.in1.handled = none from I.ok.hd hc) it a hai its.toArray) he ⟨hit, p⟩ hlt hne (by simp [hne, hae]) fun y h' tk hP ho st' hT hsz hk => ?_
    have ey : y = u := by
      have h1 : its.toArray[i]? = some y := hP
      have h2 : its.toArray[i]? = some u := by simpa using hu
      rw [h1] at h2
      exact Option.some.inj h2
    subst ey
    refine ⟨_, rfl, wpAny_letOwnedTupleGo_enum (s := { s with heap := h', toks := tk + 1 }) ho fun h'' he' sb => ?_⟩
    have hT2 : h''.get? s.heap.objs.size = some { cls := .type "tuple", data := .seq #[.int i tk, y] } := (sb.2 _ (Nat.ne_of_gt hel)).trans hT
    have new : ObjOk X.prog X.w (upd H s.heap.objs.size (.tup [.int (i : Nat), x])) h'' s.heap.objs.size (.tup [.int (i : Nat), x]) :=
      ⟨by show 2 ≤ sizeLine; decide, [.int i tk, y], .cons ⟨_, rfl⟩ (.cons ru .nil), ⟨_, hT2, rfl, _, rfl⟩⟩
    have I1 : Inv X pins σ (upd H s.heap.objs.size (.tup [.int (i : Nat), x])) { s with heap := h'', toks := tk + 1 } :=
      I.turnedNew (t' := tk + 1) (ch := [e, it]) (fun b ob hb q => (sb.2 b (fun z => hb (by simp [z]))).trans (hk b ob (fun z => hb (by simp [z])) (fun z => hb (by simp [z])) q)) hf (Nat.le_refl _) new
    refine ⟨.ref s.heap.objs.size, _, I1, rfl, ⟨_, x, rfl, I.hok.fresh (Nat.le_refl _), rfl, fun ys hy => by rw [I.tuple_inj hy hq]; exact hx⟩, ⟨⟨y, ?_⟩, st'.1.at fun o q => (sb.2 it (Ne.symm hne)).trans q, hne⟩, fun b hb => ?_⟩
    · have e1 : ((i + 1 : Nat) : Int) = (i : Int) + 1 := by omega
      rw [e1]; exact he'
    · have hb' : b < s.heap.objs.size := by
        have e' : b = e ∨ b = it := by simpa using hb
        rcases e' with z | z
        · rw [z]; exact hel
        · rw [z]; exact hil
      rw [upd_ne (Nat.ne_of_lt hb')]
      exact (hf b hb).1
  done := by
    intro X hP hw hK hc i pins s σ H E I hf st hg
    subst hP hw hK
    obtain ⟨⟨old, he⟩, hit, hne⟩ := st
    obtain ⟨xs, hq, hx⟩ := hg
    obtain ⟨its, rv, p, hz⟩ := I.tuple hq
    have hai : a ≠ it := tup_ne_iter p hit
    obtain ⟨f0, f1, f2, f3, f4, f5⟩ := hf it (by simp)
    have hl := rv.length
    unfold pyNext
    have hT : s.TypeIs (.ref e) "enumerate" := ⟨_, he, rfl⟩
    refine wpAny_bind (wpAny_attempt (wpAny_callSpecial?_slot (name := Str.ofString "__next__") hT F.slot_enumerate_next
      (wpAny_call_entry F.slot_enumerate_next hT F.entry_enumerate_next ?_ (F.args_enumerate_next_1 _))))
    show wpAny _ _ (field (.ref e) 2 >>= _) _ _ _
    refine wpAny_bind (wpAny_field he rfl (x := .ref it) rfl ?_)
    refine wpAny_bind (wpAny_nextOf_tuple_end (show X.A.in1.handled = none from I.ok.hd hc) hit p (by simp; omega) fun h' x he' hx' => ?_)
    obtain ⟨o, ho, hcx⟩ := hx'
    refine wpAny_bind (wpAny_isInstance (T := "StopIteration") (b := true) ⟨o, ho, hcx⟩ isSubtype_stop ?_)
    exact wpAny_pure ⟨rfl, I.turned (t' := s.toks) (fun b o hb q => he' b o hb q) f0 f1 f3 f4 f5⟩
  self := fun A i s Q E st h => let ⟨⟨_, he⟩, _⟩ := st; wpAny_pyIter_enum he h
def iEnumT (K : PySem.W.Frag) (ta : TA) : TI := fun σ H R => ta σ H fun vs H1 => ∃ a xs, vs = [.ref a] ∧ SqT K H1 a xs ∧ R (IteT K a) H1
theorem pi_enumT {X : Cx} {e : Expr} {ta : TA} {p pos tpos : Pos} {elts : List Expr} {kk : Nat} (hg : Gl X "enumerate") (hm : X.mg "enumerate" = none) (ha : PA X [e] ta) (hs : starEach [e] X.env = [(false, eval e X.env)] := by rfl) :
    PI X (.Tuple elts kk tpos) (.Call (.Name "enumerate" p) [e] [] pos) (iEnumT X.K ta) := by
  refine ⟨fun pins s σ H R I h => ?_⟩
  refine Call_ (ld_blt I hg hm boot_enumerate (PyProof.Rows.callWith_type1 (thn (ha.run pos pins s σ H _ I h) fun us s1 ⟨vs, H1, I1, r1, q1⟩ => ?_) hs rfl))
  obtain ⟨a, xs, ex, hq, q⟩ := q1
  subst ex
  cases r1 with
  | cons r rr =>
    cases rr
    cases r
    obtain ⟨its, rv, p', hz⟩ := I1.tuple hq
    refine call_enumerate_tup p' fun h' he hit hsz hk => wpAny_pyIter_enum he ?_
    have I2 : Inv X pins σ H1 { s1 with heap := h' } := I1.kept (t' := s1.toks) hk
    refine ⟨s1.heap.objs.size + 1, [s1.heap.objs.size + 1, s1.heap.objs.size], _, _, H1, rfl, I2, turn_enumT a (s1.heap.objs.size + 1) s1.heap.objs.size, ⟨⟨.none, he⟩, hit, Nat.succ_ne_self _⟩, fun b hb => ?_, q⟩
    have e' : b = s1.heap.objs.size + 1 ∨ b = s1.heap.objs.size := by simpa using hb
    have hle : s1.heap.objs.size ≤ b := by
      rcases e' with z | z
      · rw [z]; exact Nat.le_add_right _ _
      · rw [z]; exact Nat.le_refl _
    exact I1.fpOk hle (I1.hok.fresh hle)
theorem walk_enumT {K : PySem.W.Frag} {a : Addr} {xs : List V} : Walk (IteT K a) xs.length (fun H => SqT K H a xs) (YPair (fun i => some (.int (i : Nat))) (fun i => xs[i]?)) := by
  refine ⟨fun i _ hi q => ⟨xs, xs[i], q, by simp [hi]⟩, fun _ q => ⟨xs, q, Nat.le_refl _⟩, fun i H v H' _ q y => ?_⟩
  obtain ⟨T, x, h1, h2, h3, h4⟩ := y
  exact ⟨T, .int (i : Nat), x, h1, h2, h3, rfl, h4 xs q⟩
end L2

namespace L2
open PySem PySem.Spec PyProof.Rows

/-! ### names for readings -/
section
variable {X : Cx}
def rInt1 : List V → Hp → VK → Prop := fun xs H Q => (∃ i, xs = [.int i] ∧ Q (.int i) H) ∨ ∃ k, xs = [.bl k] ∧ Q (.int (if k then 1 else 0)) H
theorem cr_int1 : CallR X (.type "int") rInt1 := call_int1
def rAbs : List V → Hp → VK → Prop := fun xs H Q => ∃ i, xs = [.int i] ∧ Q (.int (if i < 0 then -i else i)) H
theorem cr_abs : CallR X (.builtin "abs") rAbs := call_abs
def rMax2 : List V → Hp → VK → Prop := fun xs H Q => ∃ i j, xs = [.int i, .int j] ∧ Q (.int (if j > i then j else i)) H
theorem cr_max2 (hc : X.calm = true) : CallR X (.builtin "max") rMax2 := call_max2 hc
def rMin2 : List V → Hp → VK → Prop := fun xs H Q => ∃ i j, xs = [.int i, .int j] ∧ Q (.int (if j < i then j else i)) H
theorem cr_min2 (hc : X.calm = true) : CallR X (.builtin "min") rMin2 := call_min2 hc
def rLenS (K : PySem.W.Frag) : List V → Hp → VK → Prop := fun xs H Q => ∃ p ys, xs = [.ref p] ∧ (SqL K H p ys ∨ SqT K H p ys) ∧ Q (.int ys.length) H
theorem cr_lenS : CallR X (.builtin "len") (rLenS X.K) := call_len_seq
def rListS (K : PySem.W.Frag) : List V → Hp → VK → Prop := fun xs H Q => ∃ p ys, xs = [.ref p] ∧ (SqL K H p ys ∨ SqT K H p ys) ∧ ∀ l, H l = none → Q (.ref l) (upd H l (.lst ys))
theorem cr_listS : CallR X (.type "list") (rListS X.K) := call_list_of
def rTupS (K : PySem.W.Frag) : List V → Hp → VK → Prop := fun xs H Q => ∃ p ys, xs = [.ref p] ∧ ((SqL K H p ys ∧ ∀ l, H l = none → Q (.ref l) (upd H l (.tup ys))) ∨ (SqT K H p ys ∧ Q (.ref p) H))
theorem cr_tupS : CallR X (.type "tuple") (rTupS X.K) := call_tuple_of
def rIsN : R2 := fun x y H Q => y = .non ∧ Q (.bl (decide (x = .non))) H
def rNotN : R2 := fun x y H Q => y = .non ∧ Q (.bl (!decide (x = .non))) H
theorem op_isNN : OpR X (compareOp .Is) rIsN := op_isN
theorem op_notNN : OpR X (compareOp .IsNot) rNotN := op_notN
def tTru (K : PySem.W.Frag) (ta : TE) : TT := fun σ H Q => ta σ H fun x H' => ∃ k, TruV K x H' k ∧ Q k H'
theorem pt_tru {a : Expr} {ta : TE} (ha : PE X a ta) (he : ∀ whole, isTrue a X.env whole = (do let v ← whole; standAt a.pos; holding [v] (truthy v))) : PT X a (tTru X.K ta) := pt_truth ha he
end

/-! ### the readings, one step each -/
def nth (ns : List Int) (i : Int) : Int := ns.getD i.toNat 0
theorem nth_at {ns : List Int} {i : Int} (h0 : 0 ≤ i) (h1 : i < ns.length) : atI (ns.map V.int) i = some (.int (nth ns i)) := by
  have e : i = ((i.toNat : Nat) : Int) := (Int.toNat_of_nonneg h0).symm
  have h2 : i.toNat < ns.length := by omega
  have g : (ns.map V.int)[i.toNat]? = some (.int (nth ns i)) := by
    rw [List.getElem?_map, List.getElem?_eq_getElem h2]
    unfold nth
    rw [List.getD_eq_getElem?_getD, List.getElem?_eq_getElem h2]
    rfl
  exact at_of e g
theorem nth_nat (ns : List Int) (i : Nat) : nth ns (i : Int) = ns.getD i 0 := rfl
theorem nth_mem {ns : List Int} {i : Int} (h0 : 0 ≤ i) (h1 : i < ns.length) : nth ns i ∈ ns := by
  have h2 : i.toNat < ns.length := by omega
  unfold nth
  rw [List.getD_eq_getElem?_getD, List.getElem?_eq_getElem h2]
  exact List.getElem_mem h2

theorem Same.seqT {K : PySem.W.Frag} {H H' : Hp} {a : Addr} {xs : List V} (e : Same H H') (h : SqT K H a xs) : SqT K H' a xs := by
  rcases h with (h | ⟨o, h⟩) | h
  · exact .inl (.inl (e _ _ h))
  · exact .inl (.inr ⟨o, e _ _ h⟩)
  · exact .inr h
/-- a list (true) or a tuple (false) -/
def Sq (b : Bool) (K : PySem.W.Frag) (H : Hp) (a : Addr) (xs : List V) : Prop := match b with
  | true => SqL K H a xs
  | false => SqT K H a xs
theorem Sq.or {b : Bool} {K : PySem.W.Frag} {H : Hp} {a : Addr} {xs : List V} (h : Sq b K H a xs) : SqL K H a xs ∨ SqT K H a xs := by
  cases b
  · exact .inr h
  · exact .inl h
theorem Sq.lst {K : PySem.W.Frag} {H : Hp} {a : Addr} {xs : List V} (h : H a = some (.lst xs)) : Sq true K H a xs := SqL.of h
theorem Sq.tup {K : PySem.W.Frag} {H : Hp} {a : Addr} {xs : List V} (h : H a = some (.tup xs)) : Sq false K H a xs := SqT.of h
theorem Same.sq {b : Bool} {K : PySem.W.Frag} {H H' : Hp} {a : Addr} {xs : List V} (e : Same H H') (h : Sq b K H a xs) : Sq b K H' a xs := by
  cases b
  · exact e.seqT h
  · exact e.seq h
theorem Same.at {H H' : Hp} {a : Addr} {o : HO} (e : Same H H') (h : H a = some o) : H' a = some o := e a o h
theorem Same.new {H : Hp} {p : Addr} {o : HO} (h : H p = none) : Same H (upd H p o) := fun b x e => by
  rw [upd_ne (ne_of_none e h)]
  exact e
theorem Same.mut {H H' : Hp} {p : Addr} {o : HO} (e : Same H H') (h : H p = none) : Same H (upd H' p o) := fun a u ha => by
  rw [upd_ne (ne_of_none ha h)]
  exact e a u ha

section
variable {K : PySem.W.Frag} {σ σ' : St} {H : Hp} {v x y : V} {ta tb te : TE} {t u : TS} {D : Ends} {c d : TT} {Q : VK} {QB : Bool → Hp → Prop} {QA : List V → Hp → Prop} {r : R2}
theorem go_start (e : σ = σ') (h : t D σ' H) : t D σ H := by rw [e]; exact h
-- values
theorem w_var {i : Nat} (h : σ[i]? = some (some v)) (q : Q v H) : tVar i σ H Q := ⟨v, h, q⟩
theorem w_c (q : Q v H) : tC v σ H Q := q
theorem w_op (q : ta σ H fun x H1 => tb σ H1 fun y H2 => r x y H2 Q) : tOp r ta tb σ H Q := q
theorem w_un {r : V → Hp → VK → Prop} (q : ta σ H fun x H1 => r x H1 Q) : tUn r ta σ H Q := q
theorem w_rU {g : Int → V} {i : Int} (q : Q (g i) H) : rU g (.int i) H Q := ⟨i, rfl, q⟩
theorem w_I0 {g : Int → Int → V} {i j : Int} (q : Q (g i j) H) : rI0 g (.int i) (.int j) H Q := ⟨i, j, rfl, rfl, q⟩
theorem w_I {C : Int → Int → Prop} {g : Int → Int → V} {i j : Int} (hc : C i j) (q : Q (g i j) H) : rI C g (.int i) (.int j) H Q := ⟨i, j, rfl, rfl, hc, q⟩
theorem w_addI {i j : Int} (q : Q (.int (i + j)) H) : rAddG K (.int i) (.int j) H Q := .inl ⟨i, j, rfl, rfl, q⟩
theorem w_eqI {i j : Int} (q : Q (.bl (decide (i = j))) H) : rEqG K (.int i) (.int j) H Q := .inl ⟨rfl, by
  have e : decide (V.int i = V.int j) = decide (i = j) := by
    rw [dec_int]
    by_cases h : i = j
    · subst h; simp
    · rw [decide_eq_false h]; exact beq_eq_false_iff_ne.mpr h
  rw [e]; exact q⟩
theorem w_neI {i j : Int} (q : Q (.bl (!decide (i = j))) H) : rNeG K (.int i) (.int j) H Q := .inl ⟨rfl, by
  have e : decide (V.int i = V.int j) = decide (i = j) := by
    rw [dec_int]
    by_cases h : i = j
    · subst h; simp
    · rw [decide_eq_false h]; exact beq_eq_false_iff_ne.mpr h
  rw [e]; exact q⟩
theorem w_eqS (hs : scal x y = true) (q : Q (.bl (decide (x = y))) H) : rEqG K x y H Q := .inl ⟨hs, q⟩
theorem w_eqD {d e : PyData} (hd : Dp K H x d) (he : Dp K H y e) (sd : SeqAt.shaped d = true) (se : SeqAt.shaped e = true) (q : Q (.bl (PyData.eqv d e)) H) : rEqG K x y H Q := .inr ⟨d, e, hd, he, sd, se, q⟩
theorem w_neD {d e : PyData} (hd : Dp K H x d) (he : Dp K H y e) (sd : SeqAt.shaped d = true) (se : SeqAt.shaped e = true) (q : Q (.bl (!PyData.eqv d e)) H) : rNeG K x y H Q := .inr ⟨d, e, hd, he, sd, se, q⟩
theorem w_isN (q : Q (.bl (decide (x = .non))) H) : rIsN x .non H Q := ⟨rfl, q⟩
theorem w_isNn (q : Q (.bl true) H) : rIsN .non .non H Q := ⟨rfl, q⟩
theorem w_isNi {i : Int} (q : Q (.bl false) H) : rIsN (.int i) .non H Q := ⟨rfl, q⟩
theorem w_isNb {b : Bool} (q : Q (.bl false) H) : rIsN (.bl b) .non H Q := ⟨rfl, q⟩
theorem w_isNs {z : Str} (q : Q (.bl false) H) : rIsN (.str z) .non H Q := ⟨rfl, q⟩
theorem w_isNr {a : Addr} (q : Q (.bl false) H) : rIsN (.ref a) .non H Q := ⟨rfl, q⟩
theorem w_notNn (q : Q (.bl false) H) : rNotN .non .non H Q := ⟨rfl, q⟩
theorem w_notNi {i : Int} (q : Q (.bl true) H) : rNotN (.int i) .non H Q := ⟨rfl, q⟩
theorem w_notNb {b : Bool} (q : Q (.bl true) H) : rNotN (.bl b) .non H Q := ⟨rfl, q⟩
theorem w_notNs {z : Str} (q : Q (.bl true) H) : rNotN (.str z) .non H Q := ⟨rfl, q⟩
theorem w_notNr {a : Addr} (q : Q (.bl true) H) : rNotN (.ref a) .non H Q := ⟨rfl, q⟩
theorem w_notN (q : Q (.bl (!decide (x = .non))) H) : rNotN x .non H Q := ⟨rfl, q⟩
theorem w_cb {r : List V → Hp → VK → Prop} {ta : TA} (q : ta σ H fun vs H1 => r vs H1 Q) : tCB r ta σ H Q := q
theorem w_aNil (q : QA [] H) : tNil σ H QA := q
theorem w_aCons {tr : TA} (q : ta σ H fun x H1 => tr σ H1 fun xs H2 => QA (x :: xs) H2) : tCons ta tr σ H QA := q
theorem w_int1 {i : Int} (q : Q (.int i) H) : rInt1 [.int i] H Q := .inl ⟨i, rfl, q⟩
theorem w_int1b {k : Bool} (q : Q (.int (if k then 1 else 0)) H) : rInt1 [.bl k] H Q := .inr ⟨k, rfl, q⟩
theorem w_abs {i : Int} (q : Q (.int (if i < 0 then -i else i)) H) : rAbs [.int i] H Q := ⟨i, rfl, q⟩
theorem w_max2 {i j : Int} (q : Q (.int (if j > i then j else i)) H) : rMax2 [.int i, .int j] H Q := ⟨i, j, rfl, q⟩
theorem w_min2 {i j : Int} (q : Q (.int (if j < i then j else i)) H) : rMin2 [.int i, .int j] H Q := ⟨i, j, rfl, q⟩
theorem w_lenS {p : Addr} {ys : List V} {b : Bool} (h : Sq b K H p ys) (q : Q (.int ys.length) H) : rLenS K [.ref p] H Q := ⟨p, ys, rfl, h.or, q⟩
theorem w_lenI {p : Addr} {ns : List Int} {b : Bool} (h : Sq b K H p (ns.map V.int)) (q : Q (.int ns.length) H) : rLenS K [.ref p] H Q := ⟨p, _, rfl, h.or, by rw [List.length_map]; exact q⟩
theorem w_sumI {p : Addr} {ns : List Int} {b : Bool} (h : Sq b K H p (ns.map V.int)) (q : Q (.int ns.sum) H) : rSumS K [.ref p] H Q := ⟨p, ns, rfl, h.or, q⟩
theorem w_listS {p : Addr} {ys : List V} {b : Bool} (h : Sq b K H p ys) (q : ∀ l, H l = none → Q (.ref l) (upd H l (.lst ys))) : rListS K [.ref p] H Q := ⟨p, ys, rfl, h.or, q⟩
theorem w_tupL {p : Addr} {ys : List V} (h : Sq true K H p ys) (q : ∀ l, H l = none → Q (.ref l) (upd H l (.tup ys))) : rTupS K [.ref p] H Q := ⟨p, ys, rfl, .inl ⟨h, q⟩⟩
theorem w_tupT {p : Addr} {ys : List V} (h : Sq false K H p ys) (q : Q (.ref p) H) : rTupS K [.ref p] H Q := ⟨p, ys, rfl, .inr ⟨h, q⟩⟩
theorem w_ix {b : Bool} {p : Addr} {xs : List V} {i : Int} (h : Sq b K H p xs) (ha : atI xs i = some v) (q : Q v H) : rIx K (.ref p) (.int i) H Q := by
  rcases h.or with h | h
  · exact .inl ⟨p, xs, i, v, rfl, rfl, h, ha, q⟩
  · exact .inr (.inl ⟨p, xs, i, v, rfl, rfl, h, ha, q⟩)
theorem w_ixI {b : Bool} {p : Addr} {ns : List Int} {i : Int} (h : Sq b K H p (ns.map V.int)) (h0 : 0 ≤ i) (h1 : i < ns.length) (q : Q (.int (nth ns i)) H) : rIx K (.ref p) (.int i) H Q := w_ix h (nth_at h0 h1) q
theorem w_tupD {ta : TA} (q : ta σ H fun xs H1 => xs.length ≤ sizeLine ∧ ∀ p, H1 p = none → Q (.ref p) (upd H1 p (.tup xs))) : tTup ta σ H Q := q
theorem w_lstD {ta : TA} (q : ta σ H fun xs H1 => xs.length ≤ sizeLine ∧ ∀ p, H1 p = none → Q (.ref p) (upd H1 p (.lst xs))) : tLst ta σ H Q := q
theorem w_call {sp : Sp} {dvs : List V} {E : XK} {ta : TA} (q : ta σ H fun vs H1 => sp (vs ++ dvs) H1 Q E) : tCall sp dvs E ta σ H Q := q
theorem w_andV (q : ta σ H fun x H1 => ∃ c, x = .bl c ∧ if c = true then tb σ H1 Q else Q (.bl false) H1) : tAndV ta tb σ H Q := q
theorem w_orV (q : ta σ H fun x H1 => ∃ c, x = .bl c ∧ if c = true then Q (.bl true) H1 else tb σ H1 Q) : tOrV ta tb σ H Q := q
theorem w_notV (q : ta σ H fun x H1 => ∃ c, x = .bl c ∧ Q (.bl (!c)) H1) : tNotV ta σ H Q := q
-- methods of lists
theorem w_bm {T : String} {r : V → List V → Hp → VK → Prop} {to : TE} {ta : TA} (q : to σ H fun x H1 => tyV K T x H1 ∧ ta σ H1 fun xs H2 => r x xs H2 Q) : tBM K T r to ta σ H Q := q
theorem w_append {l : Addr} {xs : List V} (h : H l = some (.lst xs)) (hz : xs.length < sizeLine) (q : Q .non (upd H l (.lst (xs ++ [y])))) : rAppend (.ref l) [y] H Q := ⟨l, xs, y, rfl, rfl, h, hz, q⟩
theorem w_tyL {l : Addr} {xs : List V} {B : Prop} (h : Sq true K H l xs) (q : B) : tyV K "list" (.ref l) H ∧ B := ⟨.inl ⟨rfl, _, h⟩, q⟩
-- tests
theorem w_test (q : ta σ H fun x H' => ∃ k, x = .bl k ∧ QB k H') : tTest ta σ H QB := q
theorem w_tB (q : ta σ H fun x H' => ∃ k, x = .bl k ∧ QB k H') : tB ta σ H QB := q
theorem w_tru (q : ta σ H fun x H' => ∃ k, TruV K x H' k ∧ QB k H') : tTru K ta σ H QB := q
theorem w_exb {b : Bool} {F : Bool → Prop} (q : F b) : ∃ k, V.bl b = .bl k ∧ F k := ⟨b, rfl, q⟩
theorem w_truB {b : Bool} {F : Bool → Prop} (q : F b) : ∃ k, TruV K (.bl b) H k ∧ F k := ⟨b, rfl, q⟩
theorem w_truI {i : Int} {F : Bool → Prop} (q : F (i != 0)) : ∃ k, TruV K (.int i) H k ∧ F k := ⟨_, rfl, q⟩
theorem w_not (q : c σ H fun b H1 => QB (!b) H1) : tNot c σ H QB := q
theorem w_and (q : c σ H fun b H1 => if b = true then d σ H1 QB else QB false H1) : tAnd c d σ H QB := q
theorem w_or (q : c σ H fun b H1 => if b = true then QB true H1 else d σ H1 QB) : tOr c d σ H QB := q
theorem w_ifE (q : c σ H fun b H1 => if b = true then ta σ H1 Q else tb σ H1 Q) : tIf c ta tb σ H Q := q
theorem w_iteD {p A B : Prop} {_ : Decidable p} (h1 : p → A) (h2 : ¬ p → B) : if decide p = true then A else B := by
  by_cases h : p
  · rw [if_pos (decide_eq_true h)]; exact h1 h
  · rw [if_neg (by simp [h])]; exact h2 h
theorem w_iteN {p A B : Prop} {_ : Decidable p} (h1 : ¬ p → A) (h2 : p → B) : if (!decide p) = true then A else B := by
  by_cases h : p
  · rw [if_neg (by simp [h])]; exact h2 h
  · rw [if_pos (by simp [h])]; exact h1 h
theorem w_iteNT {A B : Prop} (h : B) : if (!true) = true then A else B := h
theorem w_iteNF {A B : Prop} (h : A) : if (!false) = true then A else B := h
theorem w_iteB {b : Bool} {A B : Prop} (h1 : b = true → A) (h2 : b = false → B) : if b = true then A else B := by
  cases b
  · exact h2 rfl
  · exact h1 rfl
-- statements
theorem w_seq (q : t ⟨u D, D.rt, D.bk, D.ct⟩ σ H) : tSeq t u D σ H := q
theorem w_asg {g : TG} (q : te σ H fun x H1 => g x σ H1 D.nx) : tAsg te g D σ H := q
theorem w_gName {i : Nat} {N : St → Hp → Prop} (q : N (σ.set i (some v)) H) : gName i v σ H N := q
theorem w_drop (q : te σ H fun _ H1 => D.nx σ H1) : tDrop te D σ H := q
theorem w_ret (q : te σ H D.rt) : tRet te D σ H := q
theorem w_retN (q : D.rt .non H) : tRetN D σ H := q
theorem w_ifS (q : c σ H fun b H1 => if b = true then t D σ H1 else u D σ H1) : tIfS c t u D σ H := q
theorem w_next (q : D.nx σ H) : tNext D σ H := q
theorem w_brk (q : D.bk σ H) : tBreak D σ H := q
theorem w_cont (q : D.ct σ H) : tCont D σ H := q
theorem w_nx {f b c : St → Hp → Prop} {r : VK} (q : f σ H) : Ends.nx ⟨f, r, b, c⟩ σ H := q
theorem w_rt {f b c : St → Hp → Prop} {r : VK} (q : r v H) : Ends.rt ⟨f, r, b, c⟩ v H := q
theorem w_bk {f b c : St → Hp → Prop} {r : VK} (q : b σ H) : Ends.bk ⟨f, r, b, c⟩ σ H := q
theorem w_ct {f b c : St → Hp → Prop} {r : VK} (q : c σ H) : Ends.ct ⟨f, r, b, c⟩ σ H := q
theorem w_augI {i : Nat} {f : Int → Int → Int} {z : Int} (hx : σ[i]? = some (some (.int z))) (q : te σ H fun y H1 => ipI f (.int z) y H1 fun z H2 => D.nx (σ.set i (some z)) H2) : tAug i te (ipI f) D σ H := ⟨_, hx, q⟩
theorem w_ipI {f : Int → Int → Int} {i j : Int} (q : Q (.int (f i j)) H) : ipI f (.int i) (.int j) H Q := ⟨i, j, rfl, rfl, q⟩
-- slices
theorem w_sl {r : V → Option Int → Option Int → Hp → VK → Prop} {tl th : TO} (q : te σ H fun x H1 => tl σ H1 fun l H2 => th σ H2 fun u H3 => r x l u H3 Q) : tSl r te tl th σ H Q := q
theorem w_noPart {QO : Option Int → Hp → Prop} (q : QO none H) : tNoPart σ H QO := q
theorem w_part {QO : Option Int → Hp → Prop} (q : te σ H fun x H1 => ∃ i, x = .int i ∧ QO (some i) H1) : tPart te σ H QO := q
theorem w_exi {i : Int} {F : Int → Prop} (q : F i) : ∃ k, V.int i = .int k ∧ F k := ⟨i, rfl, q⟩
theorem w_slL {a : Addr} {xs : List V} {lo hi : Option Int} (h : Sq true K H a xs) (q : ∀ p, H p = none → Q (.ref p) (upd H p (.lst (cutV xs lo hi)))) : rSlG K (.ref a) lo hi H Q := .inl ⟨a, xs, rfl, h, q⟩
-- loops
end
/-- what a for asks of its walk J -/
def LoopOk (J : It) (g : TG) (tb : TS) (D : Ends) (σ : St) (H : Hp) : Prop := ∃ W : Nat → Nat → St → Hp → Prop, (∃ m, W 0 m σ H) ∧ ∀ i m σ H, W i m σ H →
  (J.stop i H ∧ D.nx σ H) ∨ (J.go i H ∧ ∃ N : St → Hp → Prop, (∀ σ' H', N σ' H' → ∃ m', m' < m ∧ W (i + 1) m' σ' H') ∧ ∀ x H', J.yld i H x H' → g x σ H' fun σ2 H2 => tb { D with nx := N, ct := N, bk := D.nx } σ2 H2)
section
variable {K : PySem.W.Frag} {σ σ' : St} {H : Hp} {t : TS} {D : Ends} {g : TG}
theorem w_for {wi : TI} (q : wi σ H fun J H1 => LoopOk J g t D σ H1) : tFor wi g t D σ H := q
theorem w_iRng1 {ta : TA} {R : It → Hp → Prop} (q : ta σ H fun vs H1 => ∃ j : Int, vs = [.int j] ∧ -(2 ^ 62) ≤ j ∧ j < 2 ^ 62 ∧ R (Itr 0 j.toNat) H1) : iRng1 ta σ H R := q
theorem w_iRng2 {ta : TA} {R : It → Hp → Prop} (q : ta σ H fun vs H1 => ∃ i j : Int, vs = [.int i, .int j] ∧ (-(2 ^ 62) ≤ i ∧ i < 2 ^ 62 ∧ -(2 ^ 62) ≤ j ∧ j < 2 ^ 62) ∧ R (Itr i (j - i).toNat) H1) : iRng2 ta σ H R := q
theorem l_it {J : It} {n : Nat} {G : Hp → Prop} {Y : Nat → Hp → V → Hp → Prop} (w : Walk J n G Y) (Pv : Nat → St → Hp → Prop) (h0 : Pv 0 σ H) (hG : ∀ i σ H, i ≤ n → Pv i σ H → G H)
    (hs : ∀ i x σ H H', i < n → Pv i σ H → Y i H x H' → g x σ H' fun σ2 H2 => t ⟨Pv (i + 1), D.rt, D.nx, Pv (i + 1)⟩ σ2 H2) (hd : ∀ σ H, Pv n σ H → D.nx σ H) : LoopOk J g t D σ H := for_it w Pv h0 hG hs hd
/-- for k in range(n) -/
theorem l_range {n : Int} {k : Nat} (Pv : Nat → St → Hp → Prop) (h1 : -(2 ^ 62) ≤ n) (h2 : n < 2 ^ 62) (h0 : Pv 0 σ H)
    (hs : ∀ (i : Nat) σ' H', (i : Int) < n → Pv i σ' H' → t ⟨Pv (i + 1), D.rt, D.nx, Pv (i + 1)⟩ (σ'.set k (some (.int (i : Int)))) H') (hd : ∀ σ' H', Pv n.toNat σ' H' → D.nx σ' H') :
    ∃ j : Int, [V.int n] = [.int j] ∧ -(2 ^ 62) ≤ j ∧ j < 2 ^ 62 ∧ LoopOk (Itr 0 j.toNat) (gName k) t D σ H := by
  refine ⟨n, rfl, h1, h2, l_it walk_range Pv h0 (fun _ _ _ _ _ => trivial) (fun i x σ' H1 H2 hi hp hy => ?_) hd⟩
  obtain ⟨e, ex⟩ := hy
  subst e ex
  show gName k (V.int (0 + (i : Int))) σ' _ _
  rw [Int.zero_add]
  exact hs i σ' _ (by omega) hp
theorem l_range2 {lo n : Int} {k : Nat} (Pv : Nat → St → Hp → Prop) (h1 : -(2 ^ 62) ≤ lo ∧ lo < 2 ^ 62 ∧ -(2 ^ 62) ≤ n ∧ n < 2 ^ 62) (h0 : Pv 0 σ H)
    (hs : ∀ (i : Nat) σ' H', lo + (i : Int) < n → Pv i σ' H' → t ⟨Pv (i + 1), D.rt, D.nx, Pv (i + 1)⟩ (σ'.set k (some (.int (lo + (i : Int))))) H') (hd : ∀ σ' H', Pv (n - lo).toNat σ' H' → D.nx σ' H') :
    ∃ i j : Int, [V.int lo, V.int n] = [.int i, .int j] ∧ (-(2 ^ 62) ≤ i ∧ i < 2 ^ 62 ∧ -(2 ^ 62) ≤ j ∧ j < 2 ^ 62) ∧ LoopOk (Itr i (j - i).toNat) (gName k) t D σ H := by
  refine ⟨lo, n, rfl, h1, l_it walk_range Pv h0 (fun _ _ _ _ _ => trivial) (fun i x σ' H1 H2 hi hp hy => ?_) hd⟩
  obtain ⟨e, ex⟩ := hy
  subst e ex
  exact hs i σ' _ (by omega) hp
end

/-! ### for x in (a list or a tuple), enumerate of either: what is walked is reckoned first -/
def iSeq (K : PySem.W.Frag) (tl : TE) : TI := fun σ H R => tl σ H fun x H1 => ∃ a, x = .ref a ∧ ((∃ xs, SqL K H1 a xs) ∧ R (Itl K a) H1 ∨ (∃ xs, SqT K H1 a xs) ∧ R (Itt K a) H1)
section
variable {X : Cx}
theorem pi_seqS {tg l : Expr} {tl : TE} (hl : PE X l tl) : PI X tg l (iSeq X.K tl) := by
  refine ⟨fun pins s σ H R I h => ?_⟩
  refine thn (hl.run pins s σ H _ I h) fun v s1 ⟨x, H1, I1, r1, q1⟩ => ?_
  obtain ⟨a, e, q1⟩ := q1
  subst e
  cases r1
  rcases q1 with ⟨⟨xs, hq⟩, q⟩ | ⟨⟨xs, hq⟩, q⟩
  · obtain ⟨its, rv, p, hz⟩ := I1.list hq
    refine wpAny_pyIter_list p.isList ?_
    refine ⟨s1.heap.objs.size, [s1.heap.objs.size], _, _, H1, rfl, I1.kept (t' := s1.toks) fun b o e => Heap.get?_push_of_some _ e, turn_list a _, ⟨_, Heap.get?_push_size _ rfl, rfl, rfl⟩, fun b hb => ?_, q⟩
    have e : b = s1.heap.objs.size := by simpa using hb
    subst e
    exact I1.fpOk (Nat.le_refl _) (I1.hok.fresh (Nat.le_refl _))
  · obtain ⟨its, rv, p, hz⟩ := I1.tuple hq
    refine wpAny_pyIter_tuple (show s1.heap.IsTuple a its.toArray from p) ?_
    refine ⟨s1.heap.objs.size, [s1.heap.objs.size], _, _, H1, rfl, I1.kept (t' := s1.toks) fun b o e => Heap.get?_push_of_some _ e, turn_tuple a _, ⟨_, Heap.get?_push_size _ rfl, rfl, rfl⟩, fun b hb => ?_, q⟩
    have e : b = s1.heap.objs.size := by simpa using hb
    subst e
    exact I1.fpOk (Nat.le_refl _) (I1.hok.fresh (Nat.le_refl _))
def iEnumS (K : PySem.W.Frag) (ta : TA) : TI := fun σ H R => ta σ H fun vs H1 => ∃ a, vs = [.ref a] ∧ ((∃ xs, SqL K H1 a xs) ∧ R (Ite K a) H1 ∨ (∃ xs, SqT K H1 a xs) ∧ R (IteT K a) H1)
theorem pi_enumS {e : Expr} {ta : TA} {p pos tpos : Pos} {elts : List Expr} {kk : Nat} (hg : Gl X "enumerate") (hm : X.mg "enumerate" = none) (ha : PA X [e] ta) (hs : starEach [e] X.env = [(false, eval e X.env)] := by rfl) :
    PI X (.Tuple elts kk tpos) (.Call (.Name "enumerate" p) [e] [] pos) (iEnumS X.K ta) := by
  refine ⟨fun pins s σ H R I h => ?_⟩
  refine Call_ (ld_blt I hg hm boot_enumerate (PyProof.Rows.callWith_type1 (thn (ha.run pos pins s σ H _ I h) fun us s1 ⟨vs, H1, I1, r1, q1⟩ => ?_) hs rfl))
  obtain ⟨a, ex, q1⟩ := q1
  subst ex
  cases r1 with
  | cons r rr =>
    cases rr
    cases r
    have fp : ∀ b ∈ [s1.heap.objs.size + 1, s1.heap.objs.size], FpOk X pins H1 b := fun b hb => by
      have e' : b = s1.heap.objs.size + 1 ∨ b = s1.heap.objs.size := by simpa using hb
      have hle : s1.heap.objs.size ≤ b := by
        rcases e' with z | z
        · rw [z]; exact Nat.le_add_right _ _
        · rw [z]; exact Nat.le_refl _
      exact I1.fpOk hle (I1.hok.fresh hle)
    rcases q1 with ⟨⟨xs, hq⟩, q⟩ | ⟨⟨xs, hq⟩, q⟩
    · obtain ⟨its, rv, p', hz⟩ := I1.list hq
      refine call_enumerate_list p'.isList fun h' he hit hsz hk => wpAny_pyIter_enum he ?_
      have I2 : Inv X pins σ H1 { s1 with heap := h' } := I1.kept (t' := s1.toks) hk
      exact ⟨s1.heap.objs.size + 1, [s1.heap.objs.size + 1, s1.heap.objs.size], _, _, H1, rfl, I2, turn_enum a (s1.heap.objs.size + 1) s1.heap.objs.size, ⟨⟨.none, he⟩, hit, Nat.succ_ne_self _⟩, fp, q⟩
    · obtain ⟨its, rv, p', hz⟩ := I1.tuple hq
      refine call_enumerate_tup p' fun h' he hit hsz hk => wpAny_pyIter_enum he ?_
      have I2 : Inv X pins σ H1 { s1 with heap := h' } := I1.kept (t' := s1.toks) hk
      exact ⟨s1.heap.objs.size + 1, [s1.heap.objs.size + 1, s1.heap.objs.size], _, _, H1, rfl, I2, turn_enumT a (s1.heap.objs.size + 1) s1.heap.objs.size, ⟨⟨.none, he⟩, hit, Nat.succ_ne_self _⟩, fp, q⟩
end
section
variable {K : PySem.W.Frag} {σ : St} {H : Hp} {t : TS} {D : Ends} {g : TG}
theorem w_iSeq {tl : TE} {R : It → Hp → Prop} (q : tl σ H fun x H1 => ∃ a, x = .ref a ∧ ((∃ xs, SqL K H1 a xs) ∧ R (Itl K a) H1 ∨ (∃ xs, SqT K H1 a xs) ∧ R (Itt K a) H1)) : iSeq K tl σ H R := q
theorem w_iEnumS {ta : TA} {R : It → Hp → Prop} (q : ta σ H fun vs H1 => ∃ a, vs = [.ref a] ∧ ((∃ xs, SqL K H1 a xs) ∧ R (Ite K a) H1 ∨ (∃ xs, SqT K H1 a xs) ∧ R (IteT K a) H1)) : iEnumS K ta σ H R := q
theorem l_seq {b : Bool} {a : Addr} (xs : List V) (Pv : Nat → St → Hp → Prop) (h : Sq b K H a xs) (h0 : Pv 0 σ H) (hG : ∀ i σ H, i ≤ xs.length → Pv i σ H → Sq b K H a xs)
    (hs : ∀ (i : Nat) x σ' H', i < xs.length → xs[i]? = some x → Pv i σ' H' → g x σ' H' fun σ2 H2 => t ⟨Pv (i + 1), D.rt, D.nx, Pv (i + 1)⟩ σ2 H2) (hd : ∀ σ' H', Pv xs.length σ' H' → D.nx σ' H') :
    ∃ a', V.ref a = .ref a' ∧ ((∃ xs, SqL K H a' xs) ∧ LoopOk (Itl K a') g t D σ H ∨ (∃ xs, SqT K H a' xs) ∧ LoopOk (Itt K a') g t D σ H) := by
  refine ⟨a, rfl, ?_⟩
  cases b with
  | true =>
    refine .inl ⟨⟨xs, h⟩, l_it (walk_list (xs := xs)) Pv h0 hG (fun i x σ' H1 H2 hi hp hy => ?_) hd⟩
    obtain ⟨e, ex⟩ := hy
    subst e
    exact hs i x σ' _ hi ex hp
  | false =>
    refine .inr ⟨⟨xs, h⟩, l_it (walk_tup (xs := xs)) Pv h0 hG (fun i x σ' H1 H2 hi hp hy => ?_) hd⟩
    obtain ⟨e, ex⟩ := hy
    subst e
    exact hs i x σ' _ hi ex hp
theorem l_enum {b : Bool} {a : Addr} (xs : List V) (Pv : Nat → St → Hp → Prop) (h : Sq b K H a xs) (h0 : Pv 0 σ H) (hG : ∀ i σ H, i ≤ xs.length → Pv i σ H → Sq b K H a xs)
    (hs : ∀ (i : Nat) x (T : Addr) σ' H', i < xs.length → xs[i]? = some x → Pv i σ' H' → H' T = none → g (.ref T) σ' (upd H' T (.tup [.int (i : Int), x])) fun σ2 H2 => t ⟨Pv (i + 1), D.rt, D.nx, Pv (i + 1)⟩ σ2 H2) (hd : ∀ σ' H', Pv xs.length σ' H' → D.nx σ' H') :
    ∃ a', [V.ref a] = [.ref a'] ∧ ((∃ xs, SqL K H a' xs) ∧ LoopOk (Ite K a') g t D σ H ∨ (∃ xs, SqT K H a' xs) ∧ LoopOk (IteT K a') g t D σ H) := by
  refine ⟨a, rfl, ?_⟩
  cases b with
  | true =>
    refine .inl ⟨⟨xs, h⟩, l_it (walk_enum (xs := xs)) Pv h0 hG (fun i x σ' H1 H2 hi hp hy => ?_) hd⟩
    obtain ⟨T, u, v, rfl, hT, e, hu, hv⟩ := hy
    cases hu
    subst e
    exact hs i v T σ' _ hi hv hp hT
  | false =>
    refine .inr ⟨⟨xs, h⟩, l_it (walk_enumT (xs := xs)) Pv h0 hG (fun i x σ' H1 H2 hi hp hy => ?_) hd⟩
    obtain ⟨T, u, v, rfl, hT, e, hu, hv⟩ := hy
    cases hu
    subst e
    exact hs i v T σ' _ hi hv hp hT
/-- a, b = (a new pair) -/
theorem w_pair {i j : Nat} {a : Addr} {x y : V} {N : St → Hp → Prop} (h : Sq false K H a [x, y]) (q : N ((σ.set i (some x)).set j (some y)) H) : gTup K 2 (gCons (gName i) (gCons (gName j) gNil)) (.ref a) σ H N :=
  ⟨a, [x, y], rfl, h, rfl, x, [y], rfl, y, [], rfl, rfl, q⟩
end
end L2

namespace L2
open PySem PySem.Spec PyProof.Rows
/-! ### stores into lists, cuts, isinstance, lists of numbers -/
section
variable {K : PySem.W.Frag} {σ : St} {H : Hp} {v x : V} {D : Ends} {t u : TS} {Q : VK} {ta tb : TE}
theorem w_gSub {r : TSet} {N : St → Hp → Prop} (q : ta σ H fun o H1 => tb σ H1 fun i H2 => r o i v H2 fun H3 => N σ H3) : gSub ta tb r v σ H N := q
theorem w_setI {p : Addr} {ns : List Int} {k z : Int} {N : Hp → Prop} (h : H p = some (.lst (ns.map V.int))) (h0 : 0 ≤ k) (h1 : k < ns.length) (q : N (upd H p (.lst ((ns.set k.toNat z).map V.int)))) : rSetL (.ref p) (.int k) (.int z) H N := by
  refine ⟨p, ns.map V.int, k, k.toNat, rfl, rfl, h, ?_, ?_⟩
  · unfold ixN
    rw [if_pos h0, if_pos (by rw [List.length_map]; omega)]
  · rw [← List.map_set]; exact q
theorem w_setL {p : Addr} {xs : List V} {k : Int} {N : Hp → Prop} (h : H p = some (.lst xs)) (h0 : 0 ≤ k) (h1 : k < xs.length) (q : N (upd H p (.lst (xs.set k.toNat v)))) : rSetL (.ref p) (.int k) v H N := by
  refine ⟨p, xs, k, k.toNat, rfl, rfl, h, ?_, q⟩
  unfold ixN
  rw [if_pos h0, if_pos (by omega)]
theorem w_cut (Mid : St → Hp → Prop) (h1 : t ⟨Mid, D.rt, D.bk, D.ct⟩ σ H) (h2 : ∀ σ' H', Mid σ' H' → u D σ' H') : Evl.tCut t u D σ H := ⟨Mid, h1, h2⟩
theorem w_isi {tn cn : String} {b : Bool} (ht : TyX K H x (.type tn)) (hk : kitB tn cn = some b) (q : Q (.bl b) H) : rIsi K [x, .ty cn] H Q := ⟨x, .ty cn, _, _, b, rfl, .ty cn, ht, kit_ty hk, q⟩
theorem tyx_tup {a : Addr} {xs : List V} (h : SqT K H a xs) : TyX K H (.ref a) (.type "tuple") := by
  rcases h with (h | ⟨o, h⟩) | ⟨o, its, n, h1, h2, _⟩
  · exact .base (.tup h)
  · exact .fTuple h
  · exact .kTuple h1 h2
theorem tyx_lst {a : Addr} {xs : List V} (h : SqL K H a xs) : TyX K H (.ref a) (.type "list") := by
  rcases h with (h | ⟨o, h⟩) | ⟨o, its, n, h1, h2, _⟩
  · exact .base (.lst h)
  · exact .base (.frz h)
  · exact .kList h1 h2
end
theorem last_at_neg {ns : List Int} (h : 0 < ns.length) : ∃ z, z ∈ ns ∧ atI (ns.map V.int) (-1) = some (.int z) := by
  refine ⟨ns[ns.length - 1], List.getElem_mem _, ?_⟩
  unfold atI ixN
  rw [if_neg (by decide), if_pos (by rw [List.length_map]; omega)]
  show (ns.map V.int)[(-1 + (((ns.map V.int).length : Nat) : Int)).toNat]? = _
  rw [List.length_map, show (-1 + ((ns.length : Nat) : Int)).toNat = ns.length - 1 by omega, List.getElem?_map, List.getElem?_eq_getElem (by omega)]
  rfl
theorem sum_nonneg : ∀ {ns : List Int}, (∀ x ∈ ns, (0 : Int) ≤ x) → 0 ≤ ns.sum
  | [], _ => by simp
  | a :: r, h => by
    have h1 := h a (List.mem_cons_self ..)
    have h2 := sum_nonneg (ns := r) fun x hx => h x (List.mem_cons_of_mem _ hx)
    rw [List.sum_cons]; omega
theorem sum_ge_mem : ∀ {ns : List Int} {z : Int}, (∀ x ∈ ns, (0 : Int) ≤ x) → z ∈ ns → z ≤ ns.sum
  | a :: r, z, h, hz => by
    have h1 := h a (List.mem_cons_self ..)
    have h2 := sum_nonneg (ns := r) fun x hx => h x (List.mem_cons_of_mem _ hx)
    rw [List.sum_cons]
    rcases List.mem_cons.mp hz with e | e
    · subst e; omega
    · have := sum_ge_mem (ns := r) (fun x hx => h x (List.mem_cons_of_mem _ hx)) e
      omega
/-- the same data by _law_same: no deeper than n -/
def Sm (K : PySem.W.Frag) (H : Hp) : Nat → V → V → Prop
  | 0, x, y => x = y ∧ (x = .non ∨ (∃ b, x = .bl b) ∨ (∃ i, x = .int i) ∨ ∃ s, x = .str s)
  | n + 1, x, y => (x = y ∧ (x = .non ∨ (∃ b, x = .bl b) ∨ (∃ i, x = .int i) ∨ ∃ s, x = .str s)) ∨
    ∃ (a a' : Addr) (k : Bool) (xs ys : List V), x = .ref a ∧ y = .ref a' ∧ SqT K H a xs ∧ Sq k K H a' ys ∧ xs.length = ys.length ∧ ys.length ≤ 100000 ∧ ∀ (i : Nat) x' y', xs[i]? = some x' → ys[i]? = some y' → Sm K H n x' y'
theorem Sm.int {K : PySem.W.Frag} {H : Hp} {n : Nat} {i : Int} : Sm K H n (.int i) (.int i) := by
  cases n
  · exact ⟨rfl, .inr (.inr (.inl ⟨i, rfl⟩))⟩
  · exact .inl ⟨rfl, .inr (.inr (.inl ⟨i, rfl⟩))⟩
theorem Same.sm {K : PySem.W.Frag} {H H' : Hp} (e : Same H H') : ∀ {n : Nat} {x y : V}, Sm K H n x y → Sm K H' n x y
  | 0, _, _, h => h
  | n + 1, _, _, h => by
    rcases h with h | ⟨a, a', k, xs, ys, h1, h2, h3, h4, h5, hz, h6⟩
    · exact .inl h
    · exact .inr ⟨a, a', k, xs, ys, h1, h2, e.seqT h3, e.sq h4, h5, hz, fun i x' y' hx hy => Same.sm e (h6 i x' y' hx hy)⟩
end L2

namespace L2
open PySem PySem.Spec PyProof.Rows
/-! ### lists of numbers: cut, compared, looked into -/
section
variable {K : PySem.W.Frag} {H : Hp} {Q : VK}
theorem cutV_to (ns : List Int) {j : Int} (hj : 0 ≤ j) : cutV (ns.map V.int) none (some j) = (ns.take j.toNat).map V.int := by
  have e : j = ((j.toNat : Nat) : Int) := (Int.toNat_of_nonneg hj).symm
  unfold cutV
  rw [HT.sIx_none, e, HT.sIx_nat, List.drop_zero, Nat.sub_zero, Int.toNat_natCast, List.map_take, List.length_map]
  rcases Nat.le_total j.toNat ns.length with h | h
  · rw [Nat.min_eq_left h]
  · rw [Nat.min_eq_right h, List.take_of_length_le (by rw [List.length_map]; exact Nat.le_refl _), List.take_of_length_le (by rw [List.length_map]; exact h)]
theorem w_slTo {a : Addr} {ns : List Int} {j : Int} (h : Sq true K H a (ns.map V.int)) (hj : 0 ≤ j) (q : ∀ p, H p = none → Q (.ref p) (upd H p (.lst ((ns.take j.toNat).map V.int)))) : rSlG K (.ref a) none (some j) H Q :=
  .inl ⟨a, ns.map V.int, rfl, h, fun p hp => by rw [cutV_to ns hj]; exact q p hp⟩
theorem dpAll_ints {ns : List Int} : DpAll K H (ns.map V.int) (ns.map PyData.int) := by
  induction ns with
  | nil => exact .nil
  | cons a r ih => exact .cons (.int a) ih
theorem dp_ints {b : Bool} {a : Addr} {ns : List Int} (h : Sq b K H a (ns.map V.int)) : Dp K H (.ref a) (if b then .list (ns.map PyData.int) else .tuple (ns.map PyData.int)) := by
  cases b
  · exact .tup h dpAll_ints
  · exact .lst h dpAll_ints
theorem canLay_ints (ns : List Int) : PyData.canLayAll0 (ns.map PyData.int) = true := by
  induction ns with
  | nil => rfl
  | cons a r ih => simp only [List.map_cons, PyData.canLayAll0, PyData.canLay0, ih, Bool.and_self]
theorem depth_ints (ns : List Int) : PyData.depthAll (ns.map PyData.int) = 0 := by
  induction ns with
  | nil => rfl
  | cons a r ih => simp only [List.map_cons, PyData.depthAll, PyData.depth, ih, Nat.max_self]
theorem shaped_ints (ns : List Int) : SeqAt.shaped (.list (ns.map PyData.int)) = true := by
  simp [SeqAt.shaped, PyData.canLay0, PyData.depth, canLay_ints, depth_ints]
theorem shaped_intsT (ns : List Int) : SeqAt.shaped (.tuple (ns.map PyData.int)) = true := by
  simp [SeqAt.shaped, PyData.canLay0, PyData.depth, canLay_ints, depth_ints]
theorem eqvAll_ints (ns : List Int) : PyData.eqvAll (ns.map PyData.int) (ns.map PyData.int) = true := by
  induction ns with
  | nil => rfl
  | cons a r ih => simp only [List.map_cons, PyData.eqvAll, PyData.eqv, ih, beq_self_eq_true, Bool.and_self]
theorem w_neInts {a a' : Addr} {ns : List Int} (h : Sq true K H a (ns.map V.int)) (h' : Sq true K H a' (ns.map V.int)) (q : Q (.bl false) H) : rNeG K (.ref a) (.ref a') H Q :=
  w_neD (dp_ints h) (dp_ints h') (shaped_ints ns) (shaped_ints ns) (by
    have e : PyData.eqv (.list (ns.map PyData.int)) (.list (ns.map PyData.int)) = true := by simp only [PyData.eqv, eqvAll_ints]
    show Q (.bl (!PyData.eqv (.list (ns.map PyData.int)) (.list (ns.map PyData.int)))) H
    rw [e]; exact q)
theorem flat_ints (ns : List Int) : (ns.map V.int).all flatV = true := by
  induction ns with
  | nil => rfl
  | cons a r ih => simp only [List.map_cons, List.all_cons, ih, Bool.and_true]; rfl
theorem eqV_int (i j : Int) : eqV (.int i) (.int j) = (i == j) := rfl
theorem w_maxI {a : Addr} {ns : List Int} (h : Sq true K H a (ns.map V.int)) (hp : 0 < ns.length) (q : ∀ m, m ∈ ns → (∀ y, y ∈ ns → y ≤ m) → Q (.int m) H) : rMax K [.ref a] H Q := ⟨a, ns, rfl, h, hp, q⟩
theorem w_indexI {a : Addr} {ns : List Int} {z : Int} {j : Nat} (h : Sq true K H a (ns.map V.int)) (hj : j < ns.length) (e : nth ns (j : Nat) = z) (hno : ∀ m : Nat, m < j → nth ns (m : Nat) ≠ z) (q : Q (.int (j : Nat)) H) : rIndex K (.ref a) [.int z] H Q := by
  have hg : ∀ (m : Nat), m < ns.length → (ns.map V.int)[m]? = some (.int (nth ns (m : Nat))) := fun m hm => by
    rw [List.getElem?_map, List.getElem?_eq_getElem hm, nth_nat, List.getD_eq_getElem?_getD, List.getElem?_eq_getElem hm]
    rfl
  refine ⟨a, ns.map V.int, .int z, j, .int z, rfl, rfl, h, rfl, flat_ints ns, by rw [hg j hj, e], by rw [eqV_int]; exact beq_self_eq_true z, fun m z' hm hz => ?_, q⟩
  rw [hg m (by omega)] at hz
  cases hz
  rw [eqV_int]
  exact beq_eq_false_iff_ne.mpr (hno m hm)
end
end L2

namespace My
open PySem PySem.Spec PyProof.Rows L2
/-! ### one step of a reading; the closers -/
local macro_rules | `(tactic| walk_at "same") => `(tactic| first
  | assumption
  | exact Same.refl _
  | (refine Same.trans ?_ (Same.new (by assumption)); walk_at "same")
  | (refine Same.mut ?_ (by assumption); walk_at "same")
  | (refine Same.trans (H1 := _) ?_ (by assumption); walk_at "same"))
local macro_rules | `(tactic| walk_at "at") => `(tactic| first
  | assumption
  | exact upd_same
  | (refine Same.at ?_ (by assumption); walk_at "same"))
local macro_rules | `(tactic| walk_at "sq") => `(tactic| first
  | assumption
  | exact Sq.lst (by walk_at "at")
  | exact Sq.tup (by walk_at "at")
  | (refine Same.sq ?_ (by assumption); walk_at "same"))
local macro_rules | `(tactic| walk_at "num") => `(tactic| first
  | omega
  | assumption
  | (unfold CMul; omega)
  | (unfold CDiv; omega)
  | (unfold CPow; refine ⟨?_, ?_, ?_⟩ <;> first | omega | decide)
  | decide
  | (simp only [List.length_append, List.length_cons, List.length_nil, List.length_map, List.length_range] at *; omega))
local macro_rules | `(tactic| walk_at "go1") => `(tactic| first
  | with_reducible refine w_var rfl ?_
  | with_reducible refine w_seq ?_
  | with_reducible refine w_asg ?_
  | with_reducible refine w_gName ?_
  | with_reducible refine w_nx ?_
  | with_reducible refine w_c ?_
  | with_reducible refine w_op ?_
  | with_reducible refine w_I0 ?_
  | with_reducible refine w_addI ?_
  | with_reducible refine w_cb ?_
  | with_reducible refine w_aCons ?_
  | with_reducible refine w_aNil ?_
  | with_reducible refine w_int1 ?_
  | with_reducible refine w_int1b ?_
  | ((with_reducible refine w_I ?_ ?_); (· walk_at "num"))
  | with_reducible refine w_test ?_
  | with_reducible refine w_exb ?_
  | with_reducible refine w_exi ?_
  | with_reducible refine w_ifS ?_
  | with_reducible refine w_tru ?_
  | with_reducible refine w_truB ?_
  | with_reducible refine w_eqI ?_
  | with_reducible refine w_neI ?_
  | with_reducible refine iteT ?_
  | with_reducible refine iteF ?_
  | with_reducible refine w_not ?_
  | with_reducible refine w_and ?_
  | with_reducible refine w_or ?_
  | with_reducible refine w_iteNT ?_
  | with_reducible refine w_iteNF ?_
  | with_reducible refine w_rt ?_
  | with_reducible refine w_ret ?_
  | with_reducible refine w_retN ?_
  | with_reducible refine w_next ?_
  | with_reducible refine w_drop ?_
  | with_reducible refine w_augI rfl ?_
  | with_reducible refine w_ipI ?_
  | with_reducible refine w_un ?_
  | with_reducible refine w_rU ?_
  | with_reducible refine w_abs ?_
  | with_reducible refine w_max2 ?_
  | with_reducible refine w_min2 ?_
  | with_reducible refine w_call ?_
  | with_reducible refine w_tB ?_
  | with_reducible refine w_bm ?_
  | ((with_reducible show tyV _ "list" (V.ref _) _ ∧ _); refine w_tyL (by walk_at "sq") ?_)
  | ((with_reducible show rIx _ (V.ref _) (V.int _) _ _); refine w_ixI (by walk_at "sq") (by walk_at "num") (by walk_at "num") ?_)
  | ((with_reducible show rSumS _ [V.ref _] _ _); refine w_sumI (by walk_at "sq") ?_)
  | ((with_reducible show rLenS _ [V.ref _] _ _); refine w_lenI (by walk_at "sq") ?_)
  | ((with_reducible show rLenS _ [V.ref _] _ _); refine w_lenS (by walk_at "sq") ?_)
  | with_reducible refine w_isNn ?_
  | with_reducible refine w_isNi ?_
  | with_reducible refine w_isNb ?_
  | with_reducible refine w_isNs ?_
  | with_reducible refine w_isNr ?_
  | with_reducible refine w_notNn ?_
  | with_reducible refine w_notNi ?_
  | with_reducible refine w_notNb ?_
  | with_reducible refine w_notNs ?_
  | with_reducible refine w_notNr ?_
  | with_reducible refine w_lstD ?_
  | with_reducible refine w_tupD ?_
  | with_reducible refine w_sl ?_
  | with_reducible refine w_noPart ?_
  | with_reducible refine w_part ?_
  | with_reducible refine w_for ?_
  | with_reducible refine w_iRng1 ?_
  | with_reducible refine w_iRng2 ?_
  | with_reducible refine w_iSeq ?_
  | with_reducible refine w_iEnumS ?_
  | with_reducible refine w_andV ?_
  | with_reducible refine w_orV ?_
  | with_reducible refine w_notV ?_
  | with_reducible refine w_ifE ?_
  | with_reducible refine w_brk ?_
  | with_reducible refine w_cont ?_
  | with_reducible refine w_gSub ?_
  | with_reducible refine w_bk ?_
  | with_reducible refine w_ct ?_)
local macro_rules | `(tactic| walk_at "go") => `(tactic| repeat walk_at "go1")

def topS (i : Nat) : Stmt := PySem.Challenge.pw_servedalone_k03_greatest_and_by_number.main.body.getD i (.Pass ⟨0, 0, 0, 0⟩)
abbrev s_greatest : Stmt := topS 1
abbrev s_by_number : Stmt := topS 2
abbrev s_L_numbers : Stmt := topS 4
abbrev s_L_same : Stmt := topS 5
abbrev s_L_weights : Stmt := topS 6
abbrev s_law : Stmt := topS 7
theorem sc_greatest : FnScope ["weights", "best", "letter", "weight"] ["weights"] (defScope s_greatest) := ⟨rfl, rfl, rfl, by decide +kernel, rfl, by decide +kernel, by decide +kernel⟩
theorem sc_by_number : FnScope ["weights", "number", "left", "letter"] ["weights", "number"] (defScope s_by_number) := ⟨rfl, rfl, rfl, by decide +kernel, rfl, by decide +kernel, by decide +kernel⟩
theorem sc_L_numbers : FnScope ["_law_cell", "_law_at", "_law_many", "_law_great", "_law_rest", "_law_numbers_here", "_law_k", "_law_mixed"] ["_law_cell", "_law_at", "_law_many"] (defScope s_L_numbers) := ⟨rfl, rfl, rfl, by decide +kernel, rfl, by decide +kernel, by decide +kernel⟩
theorem sc_L_same : FnScope ["_law_actual", "_law_expected", "_law_k"] ["_law_actual", "_law_expected"] (defScope s_L_same) := ⟨rfl, rfl, rfl, by decide +kernel, rfl, by decide +kernel, by decide +kernel⟩
theorem sc_L_weights : FnScope ["_law_numbers_here", "_law_weights_here", "_law_k", "_law_kind", "_law_weight"] ["_law_numbers_here"] (defScope s_L_weights) := ⟨rfl, rfl, rfl, by decide +kernel, rfl, by decide +kernel, by decide +kernel⟩
theorem sc_law : FnScope ["_law_script", "_law_at", "_law_numbers_here", "_law_weights_here", "_law_upto", "_law_great", "_law_number", "_law_handed", "_law_due", "_law_rest", "_law_letter", "_law_k"] ["_law_script"] (defScope s_law) := ⟨rfl, rfl, rfl, by decide +kernel, rfl, by decide +kernel, by decide +kernel⟩

structure Txt (K : PySem.W.Frag) (mg : Str → Option Value) : Type where
  z_abs : mg "abs" = none
  z_bool : mg "bool" = none
  z_enumerate : mg "enumerate" = none
  z_int : mg "int" = none
  z_isinstance : mg "isinstance" = none
  z_len : mg "len" = none
  z_list : mg "list" = none
  z_max : mg "max" = none
  z_min : mg "min" = none
  z_range : mg "range" = none
  z_str : mg "str" = none
  z_sum : mg "sum" = none
  z_tuple : mg "tuple" = none
  a_greatest : Addr
  d_greatest : FuncData
  F_greatest : Fun K "greatest" "greatest" s_greatest a_greatest d_greatest
  g_greatest : mg "greatest" = some (.ref a_greatest)
  b_greatest : Binds K d_greatest ["weights"] []
  a_by_number : Addr
  d_by_number : FuncData
  F_by_number : Fun K "by_number" "by_number" s_by_number a_by_number d_by_number
  g_by_number : mg "by_number" = some (.ref a_by_number)
  b_by_number : Binds K d_by_number ["weights", "number"] []
  a_L_numbers : Addr
  d_L_numbers : FuncData
  F_L_numbers : Fun K "_law_numbers" "_law_numbers" s_L_numbers a_L_numbers d_L_numbers
  g_L_numbers : mg "_law_numbers" = some (.ref a_L_numbers)
  b_L_numbers : Binds K d_L_numbers ["_law_cell", "_law_at", "_law_many"] []
  a_L_same : Addr
  d_L_same : FuncData
  F_L_same : Fun K "_law_same" "_law_same" s_L_same a_L_same d_L_same
  g_L_same : mg "_law_same" = some (.ref a_L_same)
  b_L_same : Binds K d_L_same ["_law_actual", "_law_expected"] []
  a_L_weights : Addr
  d_L_weights : FuncData
  F_L_weights : Fun K "_law_weights" "_law_weights" s_L_weights a_L_weights d_L_weights
  g_L_weights : mg "_law_weights" = some (.ref a_L_weights)
  b_L_weights : Binds K d_L_weights ["_law_numbers_here"] []
  a_law : Addr
  d_law : FuncData
  F_law : Fun K "law" "law" s_law a_law d_law
  g_law : mg "law" = some (.ref a_law)
  b_law : Binds K d_law ["_law_script"] []

section
variable {P : Program} {w : World} {K : PySem.W.Frag} {mg : Str → Option Value} {base : Heap}
/-! ### greatest -/
def bestUpTo (ns : List Int) : Nat → Nat
  | 0 => 0
  | i + 1 => if nth ns (bestUpTo ns i) < nth ns i then i else bestUpTo ns i
theorem bestUpTo_lt (ns : List Int) : ∀ i, 0 < i → bestUpTo ns i < i
  | 0, h => absurd h (by decide)
  | i + 1, _ => by
    unfold bestUpTo
    split
    · omega
    · rcases Nat.eq_zero_or_pos i with h | h
      · subst h; exact Nat.zero_lt_one
      · have := bestUpTo_lt ns i h; omega
theorem bestUpTo_len {ns : List Int} (h : 0 < ns.length) {i : Nat} (hi : i ≤ ns.length) : bestUpTo ns i < ns.length := by
  rcases Nat.eq_zero_or_pos i with e | e
  · subst e; exact h
  · have := bestUpTo_lt ns i e; omega
/-- it is the first of the greatest -/
theorem bestUpTo_best (ns : List Int) : ∀ i, (∀ j, j < i → nth ns (j : Nat) ≤ nth ns (bestUpTo ns i)) ∧ (∀ j, j < bestUpTo ns i → nth ns (j : Nat) < nth ns (bestUpTo ns i))
  | 0 => ⟨fun j h => absurd h (Nat.not_lt_zero j), fun j h => absurd h (Nat.not_lt_zero j)⟩
  | i + 1 => by
    obtain ⟨h1, h2⟩ := bestUpTo_best ns i
    by_cases c : nth ns (bestUpTo ns i) < nth ns i
    · have e : bestUpTo ns (i + 1) = i := if_pos c
      rw [e]
      refine ⟨fun j hj => ?_, fun j hj => ?_⟩
      · by_cases q : j = i
        · subst q; exact Int.le_refl _
        · have := h1 j (by omega); omega
      · have := h1 j hj; omega
    · have e : bestUpTo ns (i + 1) = bestUpTo ns i := if_neg c
      rw [e]
      refine ⟨fun j hj => ?_, fun j hj => h2 j hj⟩
      by_cases q : j = i
      · subst q; omega
      · exact h1 j (by omega)
def sp_greatest (K : PySem.W.Frag) : Sp := fun vs H Q _ => ∃ (b : Bool) (a : Addr) (ns : List Int), vs = [.ref a] ∧ Sq b K H a (ns.map V.int) ∧ 0 < ns.length ∧ ∀ H', Same H H' → Q (.int (bestUpTo ns ns.length : Nat)) H'
theorem ok_greatest (T : Txt K mg) : FnOk P w K mg base CX0 1 T.a_greatest T.d_greatest ["weights"] (sp_greatest K) := by
  refine T.F_greatest.ok sc_greatest (fun vs H Q E h => ?_) (fun cdv A outer s H vs Q E hr h => ?_)
  · obtain ⟨_, _, _, rfl, _⟩ := h
    rfl
  · obtain ⟨b, a, ns, rfl, hS, hpos, k⟩ := h
    refine ⟨_, (pss_cons (ps_set (i := 1) sc_greatest.nd rfl (Or.inl rfl) pe_int)
      (pss_cons (ps_for PassesOwn.never rfl (pi_enumS (by rfl) T.z_enumerate (pa_cons (pv 0) pa_nil)) (pg_tup rfl (pgs_cons (pg_name (i := 2) sc_greatest.nd rfl (Or.inl rfl)) (pgs_cons (pg_name (i := 3) sc_greatest.nd rfl (Or.inl rfl)) pgs_nil)))
      (pss_one (ps_if (pt_cmpR op_gt (pv 3) (pe_ix ix_seq (pv 0) (pv 1) (fun _ _ => rfl)) (nomark _)) (pss_one (ps_set (i := 1) sc_greatest.nd rfl (Or.inl rfl) (pv 2))) pss_nil)))
      (pss_one (ps_ret (pv 1))))), ?_⟩
    refine go_start (σ' := [some (.ref a), none, none, none]) rfl ?_
    dsimp only [cxOf, Cx.nox, Cx.wish]
    walk_at "go"
    refine l_enum (b := b) (ns.map V.int) (fun i σ H' => ∃ y2 y3, σ = [some (.ref a), some (.int (bestUpTo ns i : Nat)), y2, y3] ∧ Same H H') (by walk_at "sq") ⟨none, none, rfl, Same.refl _⟩ ?_ ?_ ?_
    · rintro i σ H' hi ⟨_, _, _, sm⟩
      exact sm.sq hS
    · rintro i x T' σ H' hi hx ⟨y2, y3, rfl, sm⟩ hT
      rw [List.length_map] at hi
      have hxe : x = .int (nth ns (i : Nat)) := by
        rw [List.getElem?_map, List.getElem?_eq_getElem hi] at hx
        rw [← Option.some.inj hx, nth_nat, List.getD_eq_getElem?_getD, List.getElem?_eq_getElem hi]
        rfl
      subst hxe
      have hb := bestUpTo_len (ns := ns) hpos (i := i) (by omega)
      have sT : Same H (upd H' T' (.tup [.int (i : Int), .int (nth ns (i : Nat))])) := sm.trans (Same.new hT)
      refine w_pair (Sq.tup upd_same) ?_
      walk_at "go"
      refine w_iteD (fun hc => ?_) (fun hc => ?_)
      · walk_at "go"
        have e : bestUpTo ns (i + 1) = i := if_pos hc
        exact ⟨_, _, by rw [e]; rfl, sT⟩
      · walk_at "go"
        have e : bestUpTo ns (i + 1) = bestUpTo ns i := if_neg hc
        exact ⟨_, _, by rw [e]; rfl, sT⟩
    · rintro σ H' ⟨y2, y3, rfl, sm⟩
      rw [List.length_map]
      walk_at "go"
      exact k _ sm

/-! ### by_number -/
def pre (ns : List Int) (j : Nat) : Int := (ns.take j).sum
theorem pre_zero (ns : List Int) : pre ns 0 = 0 := by simp [pre]
theorem pre_all (ns : List Int) : pre ns ns.length = ns.sum := by simp [pre]
theorem pre_succ {ns : List Int} {j : Nat} (h : j < ns.length) : pre ns (j + 1) = pre ns j + nth ns (j : Nat) := by
  have e : ns[j]? = some (nth ns (j : Nat)) := by
    rw [nth_nat, List.getD_eq_getElem?_getD, List.getElem?_eq_getElem h]
    rfl
  exact sum_take e
theorem pre_le {ns : List Int} (hn : ∀ x ∈ ns, (0 : Int) ≤ x) {i j : Nat} (h : i ≤ j) (hj : j ≤ ns.length) : pre ns i ≤ pre ns j := by
  induction j with
  | zero =>
    have : i = 0 := by omega
    subst this
    exact Int.le_refl _
  | succ j ih =>
    by_cases e : i = j + 1
    · subst e; exact Int.le_refl _
    · have h1 := ih (by omega) (by omega)
      have h2 := pre_succ (ns := ns) (j := j) (by omega)
      have h3 := hn _ (nth_mem (ns := ns) (i := (j : Nat)) (by omega) (by omega))
      omega
/-- the place among whose share r falls is one alone -/
theorem pre_one {ns : List Int} (hn : ∀ x ∈ ns, (0 : Int) ≤ x) {r : Int} {i j : Nat} (hi : i < ns.length) (hj : j < ns.length) (h1 : pre ns i ≤ r) (h2 : r < pre ns (i + 1)) (h3 : pre ns j ≤ r) (h4 : r < pre ns (j + 1)) : i = j := by
  rcases Nat.lt_trichotomy i j with h | h | h
  · have := pre_le hn (show i + 1 ≤ j from h) (by omega); omega
  · exact h
  · have := pre_le hn (show j + 1 ≤ i from h) (by omega); omega
def sp_by_number (K : PySem.W.Frag) : Sp := fun vs H Q _ => ∃ (b : Bool) (a : Addr) (ns : List Int) (n : Int), vs = [.ref a, .int n] ∧ Sq b K H a (ns.map V.int) ∧ (∀ x ∈ ns, (0 : Int) ≤ x) ∧ 0 < ns.sum ∧
  ∀ (j : Nat) H', j < ns.length → pre ns j ≤ n % ns.sum → n % ns.sum < pre ns (j + 1) → Same H H' → Q (.int (j : Nat)) H'
theorem ok_by_number (T : Txt K mg) : FnOk P w K mg base CX0 1 T.a_by_number T.d_by_number ["weights", "number"] (sp_by_number K) := by
  refine T.F_by_number.ok sc_by_number (fun vs H Q E h => ?_) (fun cdv A outer s H vs Q E hr h => ?_)
  · obtain ⟨_, _, _, _, rfl, _⟩ := h
    rfl
  · obtain ⟨b, a, ns, n, rfl, hS, hn, hpos, k⟩ := h
    refine ⟨_, (pss_cons (ps_set (i := 2) sc_by_number.nd rfl (Or.inl rfl) (pe_op op_mod (pe_callTy cr_int1 (by rfl) T.z_int (by decide +kernel) (pa_cons (pv 1) pa_nil)) (pe_callB (cr_sumS rfl) (by rfl) T.z_sum (by decide +kernel) (pa_cons (pv 0) pa_nil))))
      (pss_cons (ps_set (i := 3) sc_by_number.nd rfl (Or.inl rfl) pe_int)
      (pss_cons (ps_while PassesOwn.never (pt_cmpR op_ge (pv 2) (pe_ix ix_seq (pv 0) (pv 3) (fun _ _ => rfl)) (nomark _))
      (pss_cons (ps_aug (i := 2) sc_by_number.nd rfl (Or.inl rfl) (pe_ix ix_seq (pv 0) (pv 3) (fun _ _ => rfl)) ip_sub)
      (pss_one (ps_aug (i := 3) sc_by_number.nd rfl (Or.inl rfl) pe_int ip_add))))
      (pss_one (ps_ret (pv 3)))))), ?_⟩
    refine go_start (σ' := [some (.ref a), some (.int n), none, none]) rfl ?_
    dsimp only [cxOf, Cx.nox, Cx.wish]
    walk_at "go"
    have hr0 : 0 ≤ n % ns.sum := Int.emod_nonneg _ (by omega)
    have hr1 : n % ns.sum < ns.sum := Int.emod_lt_of_pos _ hpos
    refine ⟨fun m σ H' => ∃ j : Nat, m = ns.length - j ∧ j < ns.length ∧ σ = [some (.ref a), some (.int n), some (.int (n % ns.sum - pre ns j)), some (.int (j : Nat))] ∧ pre ns j ≤ n % ns.sum ∧ H' = H, ⟨ns.length, 0, by omega, ?_, ?_, ?_, rfl⟩, ?_⟩
    · cases ns with
      | nil => exact absurd hpos (by simp)
      | cons _ _ => exact Nat.succ_pos _
    · rw [pre_zero, Int.sub_zero]; rfl
    · rw [pre_zero]; exact hr0
    · rintro m σ H' ⟨j, rfl, hj, rfl, hle, rfl⟩
      walk_at "go"
      have hs := pre_succ (ns := ns) hj
      refine w_iteD (fun hc => ?_) (fun hc => ?_)
      · have hj2 : j + 1 < ns.length := by
          rcases Nat.lt_or_ge (j + 1) ns.length with q | q
          · exact q
          · have e : j + 1 = ns.length := by omega
            rw [e, pre_all] at hs
            omega
        refine ⟨fun σ' H'' => σ' = [some (.ref a), some (.int n), some (.int (n % ns.sum - pre ns (j + 1))), some (.int ((j + 1 : Nat) : Int))] ∧ H'' = H', fun σ' H'' q => ⟨ns.length - (j + 1), by omega, j + 1, rfl, hj2, q.1, by omega, q.2⟩, ?_⟩
        walk_at "go"
        refine ⟨?_, rfl⟩
        rw [hs]
        show [some (V.ref a), some (V.int n), some (V.int (n % ns.sum - pre ns j - nth ns (j : Nat))), some (V.int ((j : Int) + 1))] = _
        rw [show n % ns.sum - pre ns j - nth ns (j : Nat) = n % ns.sum - (pre ns j + nth ns (j : Nat)) by omega]
        rfl
      · walk_at "go"
        exact k j _ hj hle (by omega) (Same.refl _)

/-! ### _law_numbers: so many numbers from 0 to 999 -/
def sp_L_numbers (K : PySem.W.Frag) : Sp := fun vs H Q _ => ∃ (c t n : Int), vs = [.int c, .int t, .int n] ∧ 0 ≤ n ∧ n ≤ 1000 ∧
  ∀ (ns : List Int) (p : Addr) (H' : Hp), (ns.length : Int) = n → (∀ x ∈ ns, (0 : Int) ≤ x ∧ x < 1000) → Same H H' → H p = none → H' p = some (.lst (ns.map V.int)) → Q (.ref p) H'
theorem ok_L_numbers (T : Txt K mg) : FnOk P w K mg base CX0 1 T.a_L_numbers T.d_L_numbers ["_law_cell", "_law_at", "_law_many"] (sp_L_numbers K) := by
  refine T.F_L_numbers.ok sc_L_numbers (fun vs H Q E h => ?_) (fun cdv A outer s H vs Q E hr h => ?_)
  · obtain ⟨_, _, _, rfl, _⟩ := h
    rfl
  · obtain ⟨c, t, n, rfl, hn0, hn1, k⟩ := h
    refine ⟨_, (pss_cons (ps_set (i := 3) sc_L_numbers.nd rfl (Or.inl rfl) (pe_cmpR op_ge (pe_callB cr_abs (by rfl) T.z_abs (by decide +kernel) (pa_cons (pe_callTy cr_int1 (by rfl) T.z_int (by decide +kernel) (pa_cons (pv 0) pa_nil)) pa_nil)) (pe_op op_pow pe_int pe_int) (nomark _)))
      (pss_cons (ps_set (i := 4) sc_L_numbers.nd rfl (Or.inl rfl) (pe_op op_addG (pe_op op_mul pe_int (pe_callB cr_abs (by rfl) T.z_abs (by decide +kernel) (pa_cons (pe_callTy cr_int1 (by rfl) T.z_int (by decide +kernel) (pa_cons (pv 0) pa_nil)) pa_nil))) (pe_callTy cr_int1 (by rfl) T.z_int (by decide +kernel) (pa_cons (pe_cmpR op_lt (pv 0) pe_int (nomark _)) pa_nil))))
      (pss_cons (ps_set (i := 5) sc_L_numbers.nd rfl (Or.inl rfl) (pe_lst pa_nil))
      (pss_cons (ps_for PassesOwn.never rfl (pi_range1 rfl T.z_range (pa_cons (pv 2) pa_nil)) (pg_name (i := 6) sc_L_numbers.nd rfl (Or.inl rfl))
      (pss_one (ps_if (pt_tru (pv 3) (by intro _; rfl)) (pss_cons (ps_expr (pe_bm PySem.F.plainAttrs_list PySem.F.slot_list_append PySem.F.type_list_append mt_append (pv 5) (pa_cons (pe_op op_mod (pe_callTy cr_int1 (by rfl) T.z_int (by decide +kernel) (pa_cons (pv 4) pa_nil)) pe_int) pa_nil)))
      (pss_one (ps_set (i := 4) sc_L_numbers.nd rfl (Or.inl rfl) (pe_op op_fdiv (pv 4) pe_int)))) (pss_cons (ps_set (i := 7) sc_L_numbers.nd rfl (Or.inl rfl) (pe_op op_mod (pe_callTy cr_int1 (by rfl) T.z_int (by decide +kernel) (pa_cons (pe_op op_addG (pe_op op_addG (pe_op op_addG (pe_op op_mul (pv 4) pe_int) (pe_op op_mul (pv 1) pe_int)) (pe_op op_mul (pv 6) pe_int)) pe_int) pa_nil)) pe_int))
      (pss_cons (ps_set (i := 7) sc_L_numbers.nd rfl (Or.inl rfl) (pe_op op_mod (pe_callTy cr_int1 (by rfl) T.z_int (by decide +kernel) (pa_cons (pe_op op_addG (pe_op op_addG (pe_op op_mul (pv 7) (pv 7)) (pe_op op_mul (pv 6) pe_int)) pe_int) pa_nil)) pe_int))
      (pss_cons (ps_set (i := 7) sc_L_numbers.nd rfl (Or.inl rfl) (pe_op op_mod (pe_callTy cr_int1 (by rfl) T.z_int (by decide +kernel) (pa_cons (pe_op op_addG (pe_op op_addG (pe_op op_mul (pv 7) (pv 7)) (pe_op op_mul (pv 1) pe_int)) pe_int) pa_nil)) pe_int))
      (pss_one (ps_expr (pe_bm PySem.F.plainAttrs_list PySem.F.slot_list_append PySem.F.type_list_append mt_append (pv 5) (pa_cons (pe_op op_mod (pe_callTy cr_int1 (by rfl) T.z_int (by decide +kernel) (pa_cons (pe_op op_fdiv (pv 7) pe_int) pa_nil)) pe_int) pa_nil))))))))))
      (pss_one (ps_ret (pv 5))))))), ?_⟩
    refine go_start (σ' := [some (.int c), some (.int t), some (.int n), none, none, none, none, none]) rfl ?_
    dsimp only [cxOf, Cx.nox, Cx.wish]
    walk_at "go"
    refine ⟨Nat.zero_le _, fun l hl => ?_⟩
    walk_at "go"
    refine l_range (fun i σ H' => ∃ (g : Bool) (r : Int) (ns : List Int) (y6 y7 : Option V), σ = [some (.int c), some (.int t), some (.int n), some (.bl g), some (.int r), some (.ref l), y6, y7] ∧ ns.length = i ∧ (∀ x ∈ ns, (0 : Int) ≤ x ∧ x < 1000) ∧ Same H H' ∧ H' l = some (.lst (ns.map V.int)))
      (by omega) (by omega) ⟨_, _, [], none, none, rfl, rfl, List.forall_mem_nil _, Same.new hl, upd_same⟩ ?_ ?_
    · rintro i σ H' hi ⟨g, r, ns, y6, y7, rfl, hlen, hb, sm, hL⟩
      have hz : (ns.map V.int).length < sizeLine := by
        rw [List.length_map]
        exact small1000 (by omega)
      walk_at "go"
      refine w_iteB (fun hg => ?_) (fun hg => ?_)
      · walk_at "go"
        refine w_append hL hz ?_
        walk_at "go"
        refine ⟨g, _, ns ++ [_], _, _, rfl, by rw [List.length_append, hlen]; rfl, fun x hx => ?_, Same.mut sm hl, by rw [upd_same, List.map_append]; rfl⟩
        rcases List.mem_append.mp hx with h | h
        · exact hb x h
        · rw [List.mem_singleton.mp h]; omega
      · walk_at "go"
        refine w_append hL hz ?_
        walk_at "go"
        refine ⟨g, _, ns ++ [_], _, _, rfl, by rw [List.length_append, hlen]; rfl, fun x hx => ?_, Same.mut sm hl, by rw [upd_same, List.map_append]; rfl⟩
        rcases List.mem_append.mp hx with h | h
        · exact hb x h
        · rw [List.mem_singleton.mp h]; omega
    · rintro σ H' ⟨g, r, ns, y6, y7, rfl, hlen, hb, sm, hL⟩
      walk_at "go"
      exact k ns l H' (by omega) hb sm hl hL

/-! ### _law_same: True of the same data -/
def sp_L_same (K : PySem.W.Frag) (n : Nat) : Sp := fun vs H Q _ => ∃ x y : V, vs = [x, y] ∧ Sm K H n x y ∧ Q (.bl true) H
theorem same_step (T : Txt K mg) {n k : Nat} (G : FnOk P w K mg base CX0 k T.a_L_same T.d_L_same ["_law_actual", "_law_expected"] (fun vs H Q E => ∃ m, n = m + 1 ∧ sp_L_same K m vs H Q E)) :
    FnOk P w K mg base CX0 (k + 1) T.a_L_same T.d_L_same ["_law_actual", "_law_expected"] (sp_L_same K n) := by
  refine T.F_L_same.ok sc_L_same (fun vs H Q E h => ?_) (fun cdv A outer s H vs Q E hr h => ?_)
  · obtain ⟨_, _, rfl, _⟩ := h
    rfl
  · obtain ⟨x, y, rfl, hS, q⟩ := h
    refine ⟨_, (pss_cons (ps_if (pt_cmpR op_isNN (pv 1) pe_non (nomark _)) (pss_one (ps_ret (pe_cmpR op_isNN (pv 0) pe_non (nomark _)))) pss_nil)
      (pss_cons (ps_if (pt_tru (pe_callB call_isi (by rfl) T.z_isinstance (by decide +kernel) (pa_cons (pv 1) (pa_cons (pe_bltn (v := .ty "str") (by rfl) T.z_str (by decide +kernel) rfl) pa_nil))) (by intro _; rfl)) (pss_one (ps_ret (pe_and (pe_callB call_isi (by rfl) T.z_isinstance (by decide +kernel) (pa_cons (pv 0) (pa_cons (pe_bltn (v := .ty "str") (by rfl) T.z_str (by decide +kernel) rfl) pa_nil))) (pe_one (pe_cmpR (op_eqG hr.units) (pv 0) (pv 1) (nomark _)))))) pss_nil)
      (pss_cons (ps_if (pt_tru (pe_callB call_isi (by rfl) T.z_isinstance (by decide +kernel) (pa_cons (pv 1) (pa_cons (pe_bltn (v := .ty "bool") (by rfl) T.z_bool (by decide +kernel) rfl) pa_nil))) (by intro _; rfl)) (pss_one (ps_ret (pe_and (pe_callB call_isi (by rfl) T.z_isinstance (by decide +kernel) (pa_cons (pv 0) (pa_cons (pe_bltn (v := .ty "bool") (by rfl) T.z_bool (by decide +kernel) rfl) pa_nil))) (pe_one (pe_cmpR (op_eqG hr.units) (pv 0) (pv 1) (nomark _)))))) pss_nil)
      (pss_cons (ps_if (pt_tru (pe_callB call_isi (by rfl) T.z_isinstance (by decide +kernel) (pa_cons (pv 1) (pa_cons (pe_bltn (v := .ty "int") (by rfl) T.z_int (by decide +kernel) rfl) pa_nil))) (by intro _; rfl)) (pss_one (ps_ret (pe_and (pe_callB call_isi (by rfl) T.z_isinstance (by decide +kernel) (pa_cons (pv 0) (pa_cons (pe_bltn (v := .ty "int") (by rfl) T.z_int (by decide +kernel) rfl) pa_nil))) (pe_and (pe_not (pe_callB call_isi (by rfl) T.z_isinstance (by decide +kernel) (pa_cons (pv 0) (pa_cons (pe_bltn (v := .ty "bool") (by rfl) T.z_bool (by decide +kernel) rfl) pa_nil)))) (pe_one (pe_cmpR (op_eqG hr.units) (pv 0) (pv 1) (nomark _))))))) pss_nil)
      (pss_cons (ps_if (PW.pt (pw_or (pt_not (pt_tru (pe_callB call_isi (by rfl) T.z_isinstance (by decide +kernel) (pa_cons (pv 0) (pa_cons (pe_bltn (v := .ty "tuple") (by rfl) T.z_tuple (by decide +kernel) rfl) pa_nil))) (by intro _; rfl))) (pw_or1 (pt_cmpR (op_neG hr.units) (pe_callB cr_lenS (by rfl) T.z_len (by decide +kernel) (pa_cons (pv 0) pa_nil)) (pe_callB cr_lenS (by rfl) T.z_len (by decide +kernel) (pa_cons (pv 1) pa_nil)) (nomark _))))) (pss_one (ps_ret pe_bl)) pss_nil)
      (pss_cons (ps_for PassesOwn.never rfl (pi_range1 rfl T.z_range (pa_cons (pe_callB cr_lenS (by rfl) T.z_len (by decide +kernel) (pa_cons (pv 1) pa_nil)) pa_nil)) (pg_name (i := 2) sc_L_same.nd rfl (Or.inl rfl))
      (pss_one (ps_if (pt_not (pt_tru (pe_call G hr (by rfl) T.g_L_same T.F_L_same.kp T.b_L_same .nil pass0 (pa_cons (pe_ix ix_seq (pv 0) (pv 2) (fun _ _ => rfl)) (pa_cons (pe_ix ix_seq (pv 1) (pv 2) (fun _ _ => rfl)) pa_nil))) (by intro _; rfl))) (pss_one (ps_ret pe_bl)) pss_nil)))
      (pss_one (ps_ret pe_bl)))))))), ?_⟩
    refine go_start (σ' := [some x, some y, none]) rfl ?_
    dsimp only [cxOf, Cx.nox, Cx.wish]
    have hflat : (x = y ∧ (x = .non ∨ (∃ b, x = .bl b) ∨ (∃ i, x = .int i) ∨ ∃ s, x = .str s)) ∨
        ∃ (m : Nat) (a a' : Addr) (k : Bool) (xs ys : List V), n = m + 1 ∧ x = .ref a ∧ y = .ref a' ∧ SqT K H a xs ∧ Sq k K H a' ys ∧ xs.length = ys.length ∧ ys.length ≤ 100000 ∧ ∀ (i : Nat) x' y', xs[i]? = some x' → ys[i]? = some y' → Sm K H m x' y' := by
      cases n with
      | zero => exact .inl hS
      | succ m =>
        rcases hS with h | ⟨a, a', k, xs, ys, h1, h2, h3, h4, h5, hz, h6⟩
        · exact .inl h
        · exact .inr ⟨m, a, a', k, xs, ys, rfl, h1, h2, h3, h4, h5, hz, h6⟩
    rcases hflat with ⟨rfl, rfl | ⟨b, rfl⟩ | ⟨i, rfl⟩ | ⟨z, rfl⟩⟩ | ⟨m, a, a', kd, xs, ys, rfl, rfl, rfl, hx, hy, hl, hz, hxy⟩
    · walk_at "go"
      exact q
    · walk_at "go"
      refine w_isi (tn := "bool") (b := false) (.base (.bl _)) (by decide +kernel) ?_
      walk_at "go"
      refine w_isi (tn := "bool") (b := true) (.base (.bl _)) (by decide +kernel) ?_
      walk_at "go"
      refine w_isi (tn := "bool") (b := true) (.base (.bl _)) (by decide +kernel) ?_
      walk_at "go"
      refine w_eqS rfl ?_
      rw [decide_eq_true rfl]
      exact q
    · walk_at "go"
      refine w_isi (tn := "int") (b := false) (.base (.int _)) (by decide +kernel) ?_
      walk_at "go"
      refine w_isi (tn := "int") (b := false) (.base (.int _)) (by decide +kernel) ?_
      walk_at "go"
      refine w_isi (tn := "int") (b := true) (.base (.int _)) (by decide +kernel) ?_
      walk_at "go"
      refine w_isi (tn := "int") (b := true) (.base (.int _)) (by decide +kernel) ?_
      walk_at "go"
      refine w_isi (tn := "int") (b := false) (.base (.int _)) (by decide +kernel) ?_
      walk_at "go"
      rw [decide_eq_true rfl]
      exact q
    · walk_at "go"
      refine w_isi (tn := "str") (b := true) (.base (.str _)) (by decide +kernel) ?_
      walk_at "go"
      refine w_isi (tn := "str") (b := true) (.base (.str _)) (by decide +kernel) ?_
      walk_at "go"
      refine w_eqS rfl ?_
      rw [decide_eq_true rfl]
      exact q
    · walk_at "go"
      have isi : ∀ {cn : String} {Q' : VK}, kitB (if kd then "list" else "tuple") cn = some false → Q' (.bl false) H → rIsi K [.ref a', .ty cn] H Q' := fun hk q' => by
        cases kd with
        | true => exact w_isi (tyx_lst hy) hk q'
        | false => exact w_isi (tyx_tup hy) hk q'
      refine isi (by cases kd <;> decide +kernel) ?_
      walk_at "go"
      refine isi (by cases kd <;> decide +kernel) ?_
      walk_at "go"
      refine isi (by cases kd <;> decide +kernel) ?_
      walk_at "go"
      refine w_isi (tn := "tuple") (b := true) (tyx_tup hx) (by decide +kernel) ?_
      walk_at "go"
      have hx' : Sq false K H a xs := hx
      walk_at "go"
      refine w_iteN (fun hc => absurd (show ((xs.length : Nat) : Int) = ys.length by rw [hl]) hc) (fun _ => ?_)
      walk_at "go"
      refine l_range (fun i σ H' => ∃ y2, σ = [some (.ref a), some (.ref a'), y2] ∧ H' = H) (by omega) (by omega) ⟨none, rfl, rfl⟩ ?_ ?_
      · rintro i σ H' hi ⟨y2, rfl, rfl⟩
        have hi2 : i < ys.length := by omega
        have ex : xs[i]? = some (xs[i]'(by omega)) := List.getElem?_eq_getElem (by omega)
        have ey : ys[i]? = some (ys[i]'hi2) := List.getElem?_eq_getElem hi2
        walk_at "go"
        refine w_ix hx' (atI_nat ex) ?_
        walk_at "go"
        refine w_ix hy (atI_nat ey) ?_
        walk_at "go"
        refine ⟨m, rfl, _, _, rfl, hxy i _ _ ex ey, ?_⟩
        walk_at "go"
        exact ⟨_, rfl, rfl⟩
      · rintro σ H' ⟨y2, rfl, rfl⟩
        walk_at "go"
        exact q
/-- of data no deeper than n, at a level of its own -/
theorem ok_L_same_at (T : Txt K mg) : ∀ n : Nat, FnOk P w K mg base CX0 (n + 1) T.a_L_same T.d_L_same ["_law_actual", "_law_expected"] (sp_L_same K n)
  | 0 => same_step T (k := 0) ⟨fun vs H Q E h => by obtain ⟨m, e, _⟩ := h; exact absurd e (by omega), fun A outer s H args us vs Q E hr he hb hv h => by obtain ⟨m, e, _⟩ := h; exact absurd e (by omega)⟩
  | n + 1 => same_step T ((ok_L_same_at T n).imp fun vs H Q E h => by
      obtain ⟨m, e, h⟩ := h
      have e2 : m = n := by omega
      subst e2
      exact h)

/-! ### _law_weights: one to twelve weights, not all 0 -/
def sp_L_weights (K : PySem.W.Frag) : Sp := fun vs H Q _ => ∃ (a : Addr) (ns : List Int), vs = [.ref a] ∧ Sq true K H a (ns.map V.int) ∧ ns.length = 32 ∧ (∀ x ∈ ns, (0 : Int) ≤ x ∧ x < 1000) ∧
  ∀ (ws : List Int) (p : Addr) (H' : Hp), 0 < ws.length → ws.length ≤ 12 → (∀ x ∈ ws, (0 : Int) ≤ x) → 0 < ws.sum → Same H H' → H p = none → H' p = some (.lst (ws.map V.int)) → Q (.ref p) H'
theorem ok_L_weights (T : Txt K mg) : FnOk P w K mg base CX0 1 T.a_L_weights T.d_L_weights ["_law_numbers_here"] (sp_L_weights K) := by
  refine T.F_L_weights.ok sc_L_weights (fun vs H Q E h => ?_) (fun cdv A outer s H vs Q E hr h => ?_)
  · obtain ⟨_, _, rfl, _⟩ := h
    rfl
  · obtain ⟨a, ns, rfl, hS, hlen, hb, k⟩ := h
    have nn : ∀ i : Int, 0 ≤ i → i < 32 → 0 ≤ nth ns i ∧ nth ns i < 1000 := fun i h0 h1 => hb _ (nth_mem h0 (by omega))
    refine ⟨_, (pss_cons (ps_set (i := 1) sc_L_weights.nd rfl (Or.inl rfl) (pe_lst pa_nil))
      (pss_cons (ps_for PassesOwn.never rfl (pi_range1 rfl T.z_range (pa_cons (pe_op op_addG pe_int (pe_op op_mod (pe_callTy cr_int1 (by rfl) T.z_int (by decide +kernel) (pa_cons (pe_ix ix_seq (pv 0) pe_int (fun _ _ => rfl)) pa_nil)) pe_int)) pa_nil)) (pg_name (i := 2) sc_L_weights.nd rfl (Or.inl rfl))
      (pss_cons (ps_set (i := 3) sc_L_weights.nd rfl (Or.inl rfl) (pe_op op_mod (pe_callTy cr_int1 (by rfl) T.z_int (by decide +kernel) (pa_cons (pe_ix ix_seq (pv 0) (pe_op op_addG pe_int (pe_op op_mul pe_int (pv 2))) (fun _ _ => rfl)) pa_nil)) pe_int))
      (pss_cons (ps_set (i := 4) sc_L_weights.nd rfl (Or.inl rfl) (pe_ix ix_seq (pe_lst (pa_cons pe_int (pa_cons pe_int (pa_cons pe_int (pa_cons (pe_ix ix_seq (pv 0) (pe_op op_addG pe_int (pe_op op_mul pe_int (pv 2))) (fun _ _ => rfl)) (pa_cons pe_int (pa_cons (pe_op op_mod (pe_callTy cr_int1 (by rfl) T.z_int (by decide +kernel) (pa_cons (pe_ix ix_seq (pv 0) (pe_op op_addG pe_int (pe_op op_mul pe_int (pv 2))) (fun _ _ => rfl)) pa_nil)) pe_int) (pa_cons pe_int (pa_cons (pe_op op_mul (pe_ix ix_seq (pv 0) (pe_op op_addG pe_int (pe_op op_mul pe_int (pv 2))) (fun _ _ => rfl)) (pe_op op_pow pe_int pe_int)) pa_nil))))))))) (pv 3) (fun _ _ => rfl)))
      (Evl.pss_cut (ps_if (PW.pt (pw_and (pt_cmpR (op_eqG hr.units) (pv 3) pe_int (nomark _)) (pw_and1 (pt_cmpR op_gt (pe_callB cr_lenS (by rfl) T.z_len (by decide +kernel) (pa_cons (pv 1) pa_nil)) pe_int (nomark _))))) (pss_one (ps_set (i := 4) sc_L_weights.nd rfl (Or.inl rfl) (pe_ix ix_seq (pv 1) (pe_un un_neg pe_int) (fun _ _ => rfl)))) pss_nil)
      (pss_one (ps_expr (pe_bm PySem.F.plainAttrs_list PySem.F.slot_list_append PySem.F.type_list_append mt_append (pv 1) (pa_cons (pv 4) pa_nil))))))))
      (pss_cons (ps_if (pt_cmpR (op_eqG hr.units) (pe_callB (cr_sumS rfl) (by rfl) T.z_sum (by decide +kernel) (pa_cons (pv 1) pa_nil)) pe_int (nomark _)) (pss_one (ps_asg (pe_op op_addG pe_int (pe_op op_mod (pe_callTy cr_int1 (by rfl) T.z_int (by decide +kernel) (pa_cons (pe_ix ix_seq (pv 0) pe_int (fun _ _ => rfl)) pa_nil)) pe_int)) (pg_sub (pv 1) (pe_op op_mod (pe_callTy cr_int1 (by rfl) T.z_int (by decide +kernel) (pa_cons (pe_ix ix_seq (pv 0) pe_int (fun _ _ => rfl)) pa_nil)) (pe_callB cr_lenS (by rfl) T.z_len (by decide +kernel) (pa_cons (pv 1) pa_nil))) set_list))) pss_nil)
      (pss_one (ps_ret (pv 1)))))), ?_⟩
    refine go_start (σ' := [some (.ref a), none, none, none, none]) rfl ?_
    dsimp only [cxOf, Cx.nox, Cx.wish]
    walk_at "go"
    refine ⟨Nat.zero_le _, fun l hl => ?_⟩
    walk_at "go"
    refine l_range (fun i σ H' => ∃ (ws : List Int) (y2 y3 y4 : Option V), σ = [some (.ref a), some (.ref l), y2, y3, y4] ∧ ws.length = i ∧ (∀ x ∈ ws, (0 : Int) ≤ x) ∧ Same H H' ∧ H' l = some (.lst (ws.map V.int)))
      (by omega) (by omega) ⟨[], none, none, none, rfl, rfl, List.forall_mem_nil _, Same.new hl, upd_same⟩ ?_ ?_
    · rintro i σ H' hi ⟨ws, y2, y3, y4, rfl, hwl, hw, sm, hL⟩
      have hz : (ws.map V.int).length < sizeLine := by
        rw [List.length_map]
        exact small1000 (by omega)
      have h4 := nn (4 + 2 * (i : Int)) (by omega) (by omega)
      walk_at "go"
      refine ⟨(by show 8 ≤ sizeLine; decide), fun p hp => ?_⟩
      have hlp : l ≠ p := ne_of_none hL hp
      walk_at "go"
      refine w_ixI (b := true) (ns := [0, 0, 1, nth ns (4 + 2 * (i : Int)), 97, nth ns (4 + 2 * (i : Int)) % 5, 3, nth ns (4 + 2 * (i : Int)) * 10 ^ (37 : Int).toNat]) (Sq.lst upd_same) (by omega) (by show _ < (8 : Int); omega) ?_
      have hv : 0 ≤ nth [0, 0, 1, nth ns (4 + 2 * (i : Int)), 97, nth ns (4 + 2 * (i : Int)) % 5, 3, nth ns (4 + 2 * (i : Int)) * 10 ^ (37 : Int).toNat] (nth ns (3 + 2 * (i : Int)) % 8) := by
        have hm := nth_mem (ns := [0, 0, 1, nth ns (4 + 2 * (i : Int)), 97, nth ns (4 + 2 * (i : Int)) % 5, 3, nth ns (4 + 2 * (i : Int)) * 10 ^ (37 : Int).toNat]) (i := nth ns (3 + 2 * (i : Int)) % 8) (by omega) (by show _ < (8 : Int); omega)
        have h10 : (0 : Int) ≤ nth ns (4 + 2 * (i : Int)) * 10 ^ (37 : Int).toNat := Int.mul_nonneg h4.1 (by decide)
        simp only [List.mem_cons, List.not_mem_nil, or_false] at hm
        omega
      generalize nth [0, 0, 1, nth ns (4 + 2 * (i : Int)), 97, nth ns (4 + 2 * (i : Int)) % 5, 3, nth ns (4 + 2 * (i : Int)) * 10 ^ (37 : Int).toNat] (nth ns (3 + 2 * (i : Int)) % 8) = v at hv
      have sp : Same H (upd H' p (.lst [.int 0, .int 0, .int 1, .int (nth ns (4 + 2 * (i : Int))), .int 97, .int (nth ns (4 + 2 * (i : Int)) % 5), .int 3, .int (nth ns (4 + 2 * (i : Int)) * 10 ^ (37 : Int).toNat)])) := sm.trans (Same.new hp)
      have hL2 : (upd H' p (.lst [.int 0, .int 0, .int 1, .int (nth ns (4 + 2 * (i : Int))), .int 97, .int (nth ns (4 + 2 * (i : Int)) % 5), .int 3, .int (nth ns (4 + 2 * (i : Int)) * 10 ^ (37 : Int).toNat)])) l = some (.lst (ws.map V.int)) := (upd_ne hlp).trans hL
      generalize (upd H' p (.lst [.int 0, .int 0, .int 1, .int (nth ns (4 + 2 * (i : Int))), .int 97, .int (nth ns (4 + 2 * (i : Int)) % 5), .int 3, .int (nth ns (4 + 2 * (i : Int)) * 10 ^ (37 : Int).toNat)])) = H2 at sp hL2 ⊢
      walk_at "go"
      refine w_cut (fun σ H' => H' = H2 ∧ ∃ (z : Int) (y2 y3 : Option V), 0 ≤ z ∧ σ = [some (.ref a), some (.ref l), y2, y3, some (.int z)]) ?_ ?_
      · walk_at "go"
        refine w_iteD (fun hc => ?_) (fun hc => ?_)
        · walk_at "go"
          refine w_iteD (fun hc2 => ?_) (fun hc2 => ?_)
          · obtain ⟨z, hz1, hz2⟩ := last_at_neg (ns := ws) (by omega)
            walk_at "go"
            refine w_ix (Sq.lst hL2) hz2 ?_
            walk_at "go"
            exact ⟨rfl, z, _, _, hw z hz1, rfl⟩
          · walk_at "go"
            exact ⟨rfl, v, _, _, hv, rfl⟩
        · walk_at "go"
          exact ⟨rfl, v, _, _, hv, rfl⟩
      · rintro σ H' ⟨rfl, z, y2, y3, hz0, rfl⟩
        walk_at "go"
        refine w_append hL2 hz ?_
        walk_at "go"
        refine ⟨ws ++ [z], _, _, _, rfl, by rw [List.length_append, hwl]; rfl, fun x hx => ?_, Same.mut sp hl, by rw [upd_same, List.map_append]; rfl⟩
        rcases List.mem_append.mp hx with h | h
        · exact hw x h
        · rw [List.mem_singleton.mp h]; exact hz0
    · rintro σ H' ⟨ws, y2, y3, y4, rfl, hwl, hw, sm, hL⟩
      have hL1 : (0 : Int) < ws.length := by omega
      have n1 := nn 1 (by omega) (by omega)
      have n2 := nn 2 (by omega) (by omega)
      have hs0 := sum_nonneg hw
      walk_at "go"
      refine w_iteD (fun hc => ?_) (fun hc => ?_)
      · have hm0 : 0 ≤ nth ns 1 % (ws.length : Int) := Int.emod_nonneg _ (by omega)
        have hm1 : nth ns 1 % (ws.length : Int) < ws.length := Int.emod_lt_of_pos _ hL1
        walk_at "go"
        refine w_setI hL hm0 hm1 ?_
        walk_at "go"
        have hw' : ∀ x ∈ ws.set (nth ns 1 % (ws.length : Int)).toNat (1 + nth ns 2 % 98), (0 : Int) ≤ x := fun x hx => by
          rcases List.mem_or_eq_of_mem_set hx with h | h
          · exact hw x h
          · rw [h]; omega
        refine k _ l _ (by rw [List.length_set]; omega) (by rw [List.length_set]; omega) hw' ?_ (Same.mut sm hl) hl upd_same
        have hmem : (1 + nth ns 2 % 98) ∈ ws.set (nth ns 1 % (ws.length : Int)).toNat (1 + nth ns 2 % 98) := List.mem_set (by omega) _
        have := sum_ge_mem hw' hmem
        omega
      · walk_at "go"
        exact k ws l H' (by omega) (by omega) hw (by omega) sm hl hL

/-! ### the law -/
def sp_law (K : PySem.W.Frag) : Sp := fun vs H Q _ => ∃ (a : Addr) (ns : List Int), vs = [.ref a] ∧ SqL K H a (ns.map V.int) ∧ ns.length ≤ 63 ∧ ∀ H', Q (.bl true) H'
theorem ok_law (T : Txt K mg) : FnOk P w K mg base CX0 2 T.a_law T.d_law ["_law_script"] (sp_law K) := by
  refine T.F_law.ok sc_law (fun vs H Q E h => ?_) (fun cdv A outer s H vs Q E hr h => ?_)
  · obtain ⟨_, _, rfl, _⟩ := h
    rfl
  · obtain ⟨a, sc, rfl, hS0, hlen, k⟩ := h
    have hS : Sq true K H a (sc.map V.int) := hS0
    refine ⟨_, (pss_cons (ps_for PassesOwn.never rfl (pi_range1 rfl T.z_range (pa_cons (pe_callB (cr_min2 rfl) (by rfl) T.z_min (by decide +kernel) (pa_cons (pe_callB cr_lenS (by rfl) T.z_len (by decide +kernel) (pa_cons (pv 0) pa_nil)) (pa_cons pe_int pa_nil))) pa_nil)) (pg_name (i := 1) sc_law.nd rfl (Or.inl rfl))
      (pss_cons (ps_set (i := 2) sc_law.nd rfl (Or.inl rfl) (pe_call (ok_L_numbers T) (hr.mono (by decide)) (by rfl) T.g_L_numbers T.F_L_numbers.kp T.b_L_numbers .nil pass0 (pa_cons (pe_ix ix_seq (pv 0) (pv 1) (fun _ _ => rfl)) (pa_cons (pv 1) (pa_cons pe_int pa_nil)))))
      (pss_cons (ps_set (i := 3) sc_law.nd rfl (Or.inl rfl) (pe_call (ok_L_weights T) (hr.mono (by decide)) (by rfl) T.g_L_weights T.F_L_weights.kp T.b_L_weights .nil pass0 (pa_cons (pv 2) pa_nil)))
      (Evl.pss_cut (ps_set (i := 4) sc_law.nd rfl (Or.inl rfl) (pe_callB (cr_sumS rfl) (by rfl) T.z_sum (by decide +kernel) (pa_cons (pe_slice sl_seqG (pv 3) po_none (po_some (pe_op op_addG pe_int (pe_op op_mod (pe_callTy cr_int1 (by rfl) T.z_int (by decide +kernel) (pa_cons (pe_ix ix_seq (pv 2) pe_int (fun _ _ => rfl)) pa_nil)) (pe_callB cr_lenS (by rfl) T.z_len (by decide +kernel) (pa_cons (pv 3) pa_nil)))))) pa_nil)))
      (pss_cons (ps_set (i := 5) sc_law.nd rfl (Or.inl rfl) pe_int)
      (Evl.pss_cut (ps_for PassesOwn.never rfl (pi_seqS (pe_slice sl_seqG (pv 2) po_none (po_some pe_int))) (pg_name (i := 6) sc_law.nd rfl (Or.inl rfl))
      (pss_one (ps_set (i := 5) sc_law.nd rfl (Or.inl rfl) (pe_op op_addG (pe_op op_mul (pv 5) pe_int) (pv 6)))))
      (Evl.pss_cut (ps_set (i := 6) sc_law.nd rfl (Or.inl rfl) (pe_ix ix_seq (pe_lst (pa_cons (pe_ix ix_seq (pv 2) pe_int (fun _ _ => rfl)) (pa_cons (pv 4) (pa_cons (pe_callB (cr_max2 rfl) (by rfl) T.z_max (by decide +kernel) (pa_cons pe_int (pa_cons (pe_op op_sub (pv 4) pe_int) pa_nil))) (pa_cons (pv 5) (pa_cons (pe_op op_addG (pe_op op_mul (pe_callB (cr_sumS rfl) (by rfl) T.z_sum (by decide +kernel) (pa_cons (pv 3) pa_nil)) (pe_ix ix_seq (pv 2) pe_int (fun _ _ => rfl))) (pv 4)) pa_nil)))))) (pe_op op_mod (pe_callTy cr_int1 (by rfl) T.z_int (by decide +kernel) (pa_cons (pe_ix ix_seq (pv 2) pe_int (fun _ _ => rfl)) pa_nil)) pe_int) (fun _ _ => rfl)))
      (pss_cons (ps_set (i := 6) sc_law.nd rfl (Or.inl rfl) (pe_op op_mod (pe_callTy cr_int1 (by rfl) T.z_int (by decide +kernel) (pa_cons (pv 6) pa_nil)) (pe_op op_pow pe_int pe_int)))
      (pss_cons (ps_set (i := 7) sc_law.nd rfl (Or.inl rfl) (pe_callTy cr_listS (by rfl) T.z_list (by decide +kernel) (pa_cons (pv 3) pa_nil)))
      (Evl.pss_cut (ps_if (pt_cmpR (op_eqG hr.units) (pe_op op_mod (pe_callTy cr_int1 (by rfl) T.z_int (by decide +kernel) (pa_cons (pe_ix ix_seq (pv 2) pe_int (fun _ _ => rfl)) pa_nil)) pe_int) pe_int (nomark _)) (pss_one (ps_set (i := 7) sc_law.nd rfl (Or.inl rfl) (pe_callTy cr_tupS (by rfl) T.z_tuple (by decide +kernel) (pa_cons (pv 3) pa_nil)))) pss_nil)
      (pss_cons (ps_set (i := 8) sc_law.nd rfl (Or.inl rfl) (pe_bm PySem.F.plainAttrs_list PySem.F.slot_list_index PySem.F.type_list_index mt_index (pv 3) (pa_cons (pe_callB (cr_max rfl) (by rfl) T.z_max (by decide +kernel) (pa_cons (pv 3) pa_nil)) pa_nil)))
      (pss_cons (ps_set (i := 9) sc_law.nd rfl (Or.inl rfl) (pe_op op_mod (pe_callTy cr_int1 (by rfl) T.z_int (by decide +kernel) (pa_cons (pv 6) pa_nil)) (pe_callB (cr_sumS rfl) (by rfl) T.z_sum (by decide +kernel) (pa_cons (pv 3) pa_nil))))
      (pss_cons (ps_set (i := 10) sc_law.nd rfl (Or.inl rfl) pe_int)
      (pss_cons (ps_for PassesOwn.never rfl (pi_range1 rfl T.z_range (pa_cons (pe_callB cr_lenS (by rfl) T.z_len (by decide +kernel) (pa_cons (pv 3) pa_nil)) pa_nil)) (pg_name (i := 11) sc_law.nd rfl (Or.inl rfl))
      (pss_one (ps_if (pt_cmpR op_ge (pv 9) (pe_callB (cr_sumS rfl) (by rfl) T.z_sum (by decide +kernel) (pa_cons (pe_slice sl_seqG (pv 3) po_none (po_some (pe_op op_addG (pv 11) pe_int))) pa_nil)) (nomark _)) (pss_one (ps_set (i := 10) sc_law.nd rfl (Or.inl rfl) (pe_op op_addG (pv 11) pe_int))) pss_nil)))
      (pss_cons (ps_if (PW.pt (pw_or (pt_not (pt_tru (pe_call (ok_L_same_at T 0) (hr.mono (by decide)) (by rfl) T.g_L_same T.F_L_same.kp T.b_L_same .nil pass0 (pa_cons (pe_call (ok_greatest T) (hr.mono (by decide)) (by rfl) T.g_greatest T.F_greatest.kp T.b_greatest .nil pass0 (pa_cons (pv 7) pa_nil)) (pa_cons (pv 8) pa_nil))) (by intro _; rfl))) (pw_or1 (pt_not (pt_tru (pe_call (ok_L_same_at T 0) (hr.mono (by decide)) (by rfl) T.g_L_same T.F_L_same.kp T.b_L_same .nil pass0 (pa_cons (pe_call (ok_by_number T) (hr.mono (by decide)) (by rfl) T.g_by_number T.F_by_number.kp T.b_by_number .nil pass0 (pa_cons (pv 7) (pa_cons (pv 6) pa_nil))) (pa_cons (pv 10) pa_nil))) (by intro _; rfl)))))) (pss_one (ps_ret pe_bl)) pss_nil)
      (pss_one (ps_if (pt_cmpR (op_neG hr.units) (pe_callTy cr_listS (by rfl) T.z_list (by decide +kernel) (pa_cons (pv 7) pa_nil)) (pv 3) (nomark _)) (pss_one (ps_ret pe_bl)) pss_nil)))))))))))))))))
      (pss_one (ps_ret pe_bl))), ?_⟩
    refine go_start (σ' := [some (.ref a), none, none, none, none, none, none, none, none, none, none, none]) rfl ?_
    dsimp only [cxOf, Cx.nox, Cx.wish]
    walk_at "go"
    have hmin : ∀ z : Int, (if (20 : Int) < z then 20 else z) ≤ z ∧ (if (20 : Int) < z then 20 else z) ≤ 20 := fun z => by split <;> omega
    have hm := hmin sc.length
    have hm0 : (0 : Int) ≤ (if (20 : Int) < (sc.length : Int) then 20 else (sc.length : Int)) := by split <;> omega
    refine l_range (fun i σ H' => ∃ (y1 y2 y3 y4 y5 y6 y7 y8 y9 y10 y11 : Option V), σ = [some (.ref a), y1, y2, y3, y4, y5, y6, y7, y8, y9, y10, y11] ∧ Same H H')
      (by omega) (by omega) ⟨none, none, none, none, none, none, none, none, none, none, none, rfl, Same.refl _⟩ ?_ ?_
    · rintro i σ H' hi ⟨y1, y2, y3, y4, y5, y6, y7, y8, y9, y10, y11, rfl, sm⟩
      walk_at "go"
      refine ⟨_, _, _, rfl, by omega, by omega, fun ns p H1 hnl hnb s1 hp hL => ?_⟩
      have nn : ∀ i : Int, 0 ≤ i → i < 32 → 0 ≤ nth ns i ∧ nth ns i < 1000 := fun i h0 h1 => hnb _ (nth_mem h0 (by omega))
      walk_at "go"
      refine ⟨p, ns, rfl, Sq.lst hL, by omega, hnb, fun ws q H2 hw0 hw12 hwn hws s2 hq hW => ?_⟩
      have hwl : (0 : Int) < ws.length := by omega
      have n27 := nn 27 (by omega) (by omega)
      have hm27 : 0 ≤ nth ns 27 % (ws.length : Int) := Int.emod_nonneg _ (by omega)
      walk_at "go"
      -- _law_upto
      refine w_cut (fun σ H' => ∃ u : Int, σ = [some (.ref a), some (.int (i : Int)), some (.ref p), some (.ref q), some (.int u), y5, y6, y7, y8, y9, y10, y11] ∧ Same H2 H') ?_ ?_
      · walk_at "go"
        refine w_slTo (Sq.lst hW) (by omega) fun p1 hp1 => ?_
        walk_at "go"
        exact ⟨_, rfl, Same.new hp1⟩
      rintro σ H3 ⟨u, rfl, s3⟩
      -- _law_great
      walk_at "go"
      refine w_cut (fun σ H' => ∃ (g : Int) (y6 : Option V), σ = [some (.ref a), some (.int (i : Int)), some (.ref p), some (.ref q), some (.int u), some (.int g), y6, y7, y8, y9, y10, y11] ∧ Same H2 H') ?_ ?_
      · walk_at "go"
        refine w_slTo (j := 13) (ns := ns) (by walk_at "sq") (by omega) fun p1 hp1 => ?_
        refine l_seq (b := true) ((ns.take 13).map V.int) (fun _ σ H' => ∃ (g : Int) (y6 : Option V), σ = [some (.ref a), some (.int (i : Int)), some (.ref p), some (.ref q), some (.int u), some (.int g), y6, y7, y8, y9, y10, y11] ∧ Same H2 H' ∧ H' p1 = some (.lst ((ns.take 13).map V.int)))
          (Sq.lst upd_same) ⟨0, y6, rfl, s3.trans (Same.new hp1), upd_same⟩ (fun _ _ _ _ ⟨_, _, _, _, e⟩ => Sq.lst e) ?_ ?_
        · rintro j x σ H4 hj hx ⟨g, z6, rfl, s4, e4⟩
          obtain ⟨v, rfl⟩ : ∃ v, x = V.int v := by
            rw [List.getElem?_map] at hx
            cases e : (ns.take 13)[j]? with
            | none => rw [e] at hx; cases hx
            | some v => rw [e] at hx; exact ⟨v, (Option.some.inj hx).symm⟩
          walk_at "go"
          exact ⟨_, _, rfl, s4, e4⟩
        · rintro σ H4 ⟨g, z6, rfl, s4, e4⟩
          walk_at "go"
          exact ⟨g, z6, rfl, s4⟩
      rintro σ H4 ⟨g, z6, rfl, s4⟩
      -- _law_number
      walk_at "go"
      have n28 := nn 28 (by omega) (by omega)
      have n29 := nn 29 (by omega) (by omega)
      have n30 := nn 30 (by omega) (by omega)
      refine w_cut (fun σ H' => ∃ (n : Int), σ = [some (.ref a), some (.int (i : Int)), some (.ref p), some (.ref q), some (.int u), some (.int g), some (.int n), y7, y8, y9, y10, y11] ∧ Same H2 H') ?_ ?_
      · walk_at "go"
        refine ⟨(by show 5 ≤ sizeLine; decide), fun p1 hp1 => ?_⟩
        have s5 := s4.trans (Same.new (o := .lst [.int (nth ns 28), .int u, .int (if u - 1 > 0 then u - 1 else 0), .int g, .int (ws.sum * nth ns 28 + u)]) hp1)
        walk_at "go"
        refine w_ixI (b := true) (ns := [nth ns 28, u, if u - 1 > 0 then u - 1 else 0, g, ws.sum * nth ns 28 + u]) (Sq.lst upd_same) (by omega) (by show _ < (5 : Int); omega) ?_
        walk_at "go"
        exact ⟨_, rfl, s5⟩
      rintro σ H5 ⟨n0, rfl, s5⟩
      walk_at "go"
      -- _law_handed
      generalize hnb : n0 % 10 ^ (40 : Int).toNat = nb
      refine w_listS (b := true) (ys := ws.map V.int) (by walk_at "sq") fun h1 hh1 => ?_
      have s6 := s5.trans (Same.new (o := .lst (ws.map V.int)) hh1)
      walk_at "go"
      refine w_cut (fun σ H' => ∃ (b : Bool) (h : Addr), σ = [some (.ref a), some (.int (i : Int)), some (.ref p), some (.ref q), some (.int u), some (.int g), some (.int nb), some (.ref h), y8, y9, y10, y11] ∧ Same H2 H' ∧ Sq b K H' h (ws.map V.int)) ?_ ?_
      · walk_at "go"
        refine w_iteD (fun _ => ?_) (fun _ => ?_)
        · walk_at "go"
          refine w_tupL (ys := ws.map V.int) (by walk_at "sq") fun h2 hh2 => ?_
          walk_at "go"
          exact ⟨false, h2, rfl, s6.trans (Same.new hh2), Sq.tup upd_same⟩
        · walk_at "go"
          exact ⟨true, h1, rfl, s6, Sq.lst upd_same⟩
      rintro σ H7 ⟨b, h, rfl, s7, hh⟩
      walk_at "go"
      refine w_maxI (ns := ws) (by walk_at "sq") hw0 fun m hm1 hm2 => ?_
      obtain ⟨hb1, hb2⟩ := bestUpTo_best ws ws.length
      have hbl := bestUpTo_len (ns := ws) hw0 (Nat.le_refl _)
      have ebest : nth ws (bestUpTo ws ws.length : Nat) = m := by
        obtain ⟨j, hj, ej⟩ := List.mem_iff_getElem.mp hm1
        have e1 : nth ws (j : Nat) = m := by
          rw [nth_nat, List.getD_eq_getElem?_getD, List.getElem?_eq_getElem hj]
          exact ej
        have e2 := hb1 j hj
        have e3 := hm2 _ (nth_mem (ns := ws) (i := ((bestUpTo ws ws.length : Nat) : Int)) (by omega) (by omega))
        omega
      walk_at "go"
      refine w_indexI (ns := ws) (j := bestUpTo ws ws.length) (by walk_at "sq") hbl ebest (fun m' hm' => ?_) ?_
      · have := hb2 m' hm'
        omega
      walk_at "go"
      -- _law_letter
      have hr0 : 0 ≤ nb % ws.sum := Int.emod_nonneg _ (by omega)
      have hr1 : nb % ws.sum < ws.sum := Int.emod_lt_of_pos _ hws
      refine l_range (fun j σ H' => ∃ (l : Nat) (y11 : Option V), σ = [some (.ref a), some (.int (i : Int)), some (.ref p), some (.ref q), some (.int u), some (.int g), some (.int nb), some (.ref h), some (.int (bestUpTo ws ws.length : Nat)), some (.int (nb % ws.sum)), some (.int (l : Nat)), y11] ∧
          l ≤ j ∧ pre ws l ≤ nb % ws.sum ∧ (∀ m : Nat, l ≤ m → m < j → nb % ws.sum < pre ws (m + 1)) ∧ Same H7 H')
        (by omega) (by omega) ⟨0, y11, rfl, Nat.le_refl _, by rw [pre_zero]; exact hr0, fun m _ h => absurd h (Nat.not_lt_zero m), Same.refl _⟩ ?_ ?_
      · rintro j σ H8 hj ⟨l, z11, rfl, hl, hp1, hp2, s8⟩
        have s78 := s7.trans s8
        walk_at "go"
        refine w_slTo (ns := ws) (by walk_at "sq") (by omega) fun p1 hp1' => ?_
        walk_at "go"
        have etake : (ws.take ((j : Int) + 1).toNat).sum = pre ws (j + 1) := by
          unfold pre
          rw [show ((j : Int) + 1).toNat = j + 1 by omega]
        rw [etake]
        refine w_iteD (fun hc => ?_) (fun hc => ?_)
        · walk_at "go"
          exact ⟨j + 1, _, rfl, Nat.le_refl _, hc, fun m h1 h2 => by omega, s8.trans (Same.new hp1')⟩
        · walk_at "go"
          refine ⟨l, _, rfl, by omega, hp1, fun m h1 h2 => ?_, s8.trans (Same.new hp1')⟩
          by_cases e : m = j
          · subst e; omega
          · exact hp2 m h1 (by omega)
      rintro σ H8 ⟨l, z11, rfl, hl, hp1, hp2, s8⟩
      have s78 := s7.trans s8
      have hll : l < ws.length := by
        rcases Nat.lt_or_ge l ws.length with h | h
        · exact h
        · have e : l = ws.length := by omega
          rw [e, pre_all] at hp1
          omega
      have hpl := hp2 l (Nat.le_refl _) (by omega)
      have hh8 : Sq b K H8 h (ws.map V.int) := s8.sq hh
      walk_at "go"
      refine ⟨b, h, ws, rfl, hh8, hw0, fun H9 s9 => ?_⟩
      walk_at "go"
      refine ⟨_, _, rfl, Sm.int, ?_⟩
      walk_at "go"
      refine ⟨b, h, ws, nb, rfl, s9.sq hh8, hwn, hws, fun j H10 hj1 hj2 hj3 s10 => ?_⟩
      have ej : j = l := pre_one hwn hj1 hll hj2 hj3 hp1 hpl
      subst ej
      walk_at "go"
      refine ⟨_, _, rfl, Sm.int, ?_⟩
      walk_at "go"
      refine w_listS (b := b) (ys := ws.map V.int) (s10.sq (s9.sq hh8)) fun h3 hh3 => ?_
      walk_at "go"
      have s11 := ((s78.trans s9).trans s10).trans (Same.new (o := .lst (ws.map V.int)) hh3)
      refine w_neInts (ns := ws) (Sq.lst upd_same) (s11.sq (Sq.lst hW)) ?_
      walk_at "go"
      exact ⟨_, _, _, _, _, _, _, _, _, _, _, rfl, ((sm.trans s1).trans s2).trans s11⟩
    · rintro σ H' ⟨y1, y2, y3, y4, y5, y6, y7, y8, y9, y10, y11, rfl, sm⟩
      walk_at "go"
      exact k _

end
theorem all_mk {l : PySem.W.OpenLaw} {w : World} {K : PySem.W.Frag} {h : Heap} {mg : Str → Option Value} {fa fgreatest fby_number fL_numbers fL_same fL_weights flaw : Addr} (X : K.In h) (G : h.Ns mainGlobals mg) (hfa : mg "law" = some (.ref fa))
    {odgreatest angreatest odby_number anby_number odL_numbers anL_numbers odL_same anL_same odL_weights anL_weights odlaw anlaw : Option Addr} {slgreatest slby_number slL_numbers slL_same slL_weights sllaw : Array (Option Value)} {ocgreatest kVgreatest dcgreatest pmgreatest cdgreatest ctgreatest ocby_number kVby_number dcby_number pmby_number cdby_number ctby_number ocL_numbers kVL_numbers dcL_numbers pmL_numbers cdL_numbers ctL_numbers ocL_same kVL_same dcL_same pmL_same cdL_same ctL_same ocL_weights kVL_weights dcL_weights pmL_weights cdL_weights ctL_weights oclaw kVlaw dclaw pmlaw cdlaw ctlaw : Value}
    (agreatest : PySem.W.nsIn K mainGlobals "greatest" = some (some (.ref fgreatest))) (lgreatest : K.lookup fgreatest = some ⟨ocgreatest, odgreatest, .func (PySem.W.fnOf "greatest" "greatest" (defArgs s_greatest) (defBody s_greatest) (defScope s_greatest) .none kVgreatest dcgreatest pmgreatest angreatest cdgreatest ctgreatest), slgreatest⟩) (cgreatest : PySem.W.codeIn K cdgreatest "greatest" = true) (kgreatest : PySem.W.keepIn K (.ref fgreatest) = true)
    (aby_number : PySem.W.nsIn K mainGlobals "by_number" = some (some (.ref fby_number))) (lby_number : K.lookup fby_number = some ⟨ocby_number, odby_number, .func (PySem.W.fnOf "by_number" "by_number" (defArgs s_by_number) (defBody s_by_number) (defScope s_by_number) .none kVby_number dcby_number pmby_number anby_number cdby_number ctby_number), slby_number⟩) (cby_number : PySem.W.codeIn K cdby_number "by_number" = true) (kby_number : PySem.W.keepIn K (.ref fby_number) = true)
    (aL_numbers : PySem.W.nsIn K mainGlobals "_law_numbers" = some (some (.ref fL_numbers))) (lL_numbers : K.lookup fL_numbers = some ⟨ocL_numbers, odL_numbers, .func (PySem.W.fnOf "_law_numbers" "_law_numbers" (defArgs s_L_numbers) (defBody s_L_numbers) (defScope s_L_numbers) .none kVL_numbers dcL_numbers pmL_numbers anL_numbers cdL_numbers ctL_numbers), slL_numbers⟩) (cL_numbers : PySem.W.codeIn K cdL_numbers "_law_numbers" = true) (kL_numbers : PySem.W.keepIn K (.ref fL_numbers) = true)
    (aL_same : PySem.W.nsIn K mainGlobals "_law_same" = some (some (.ref fL_same))) (lL_same : K.lookup fL_same = some ⟨ocL_same, odL_same, .func (PySem.W.fnOf "_law_same" "_law_same" (defArgs s_L_same) (defBody s_L_same) (defScope s_L_same) .none kVL_same dcL_same pmL_same anL_same cdL_same ctL_same), slL_same⟩) (cL_same : PySem.W.codeIn K cdL_same "_law_same" = true) (kL_same : PySem.W.keepIn K (.ref fL_same) = true)
    (aL_weights : PySem.W.nsIn K mainGlobals "_law_weights" = some (some (.ref fL_weights))) (lL_weights : K.lookup fL_weights = some ⟨ocL_weights, odL_weights, .func (PySem.W.fnOf "_law_weights" "_law_weights" (defArgs s_L_weights) (defBody s_L_weights) (defScope s_L_weights) .none kVL_weights dcL_weights pmL_weights anL_weights cdL_weights ctL_weights), slL_weights⟩) (cL_weights : PySem.W.codeIn K cdL_weights "_law_weights" = true) (kL_weights : PySem.W.keepIn K (.ref fL_weights) = true)
    (alaw : PySem.W.nsIn K mainGlobals "law" = some (some (.ref flaw))) (llaw : K.lookup flaw = some ⟨oclaw, odlaw, .func (PySem.W.fnOf "law" "law" (defArgs s_law) (defBody s_law) (defScope s_law) .none kVlaw dclaw pmlaw anlaw cdlaw ctlaw), sllaw⟩) (claw : PySem.W.codeIn K cdlaw "law" = true) (klaw : PySem.W.keepIn K (.ref flaw) = true)
    (zabs : PySem.W.nsIn K mainGlobals "abs" = some none)
    (zbool : PySem.W.nsIn K mainGlobals "bool" = some none)
    (zenumerate : PySem.W.nsIn K mainGlobals "enumerate" = some none)
    (zint : PySem.W.nsIn K mainGlobals "int" = some none)
    (zisinstance : PySem.W.nsIn K mainGlobals "isinstance" = some none)
    (zlen : PySem.W.nsIn K mainGlobals "len" = some none)
    (zlist : PySem.W.nsIn K mainGlobals "list" = some none)
    (zmax : PySem.W.nsIn K mainGlobals "max" = some none)
    (zmin : PySem.W.nsIn K mainGlobals "min" = some none)
    (zrange : PySem.W.nsIn K mainGlobals "range" = some none)
    (zstr : PySem.W.nsIn K mainGlobals "str" = some none)
    (zsum : PySem.W.nsIn K mainGlobals "sum" = some none)
    (ztuple : PySem.W.nsIn K mainGlobals "tuple" = some none)
    : ∃ fd : FuncData, (∀ (s : Shared) (v : Value), BindsTo s fd ⟨[v], []⟩ [("_law_script", v)]) ∧ ∀ base : Heap, K.In base → base.Ns mainGlobals mg → FnOk l.prog w K mg base CX0 2 fa fd ["_law_script"] (sp_law K) := by
  have e := hfa.symm.trans (PySem.W.mg_of X G alaw)
  cases e
  have Fgreatest := fun_mk (st := s_greatest) lgreatest cgreatest kgreatest
  have bgreatest := Fgreatest.binds (ps := ["weights"]) fun _ _ _ _ _ _ us hl => match us, hl with | [_], _ => rfl
  have Fby_number := fun_mk (st := s_by_number) lby_number cby_number kby_number
  have bby_number := Fby_number.binds (ps := ["weights", "number"]) fun _ _ _ _ _ _ us hl => match us, hl with | [_, _], _ => rfl
  have FL_numbers := fun_mk (st := s_L_numbers) lL_numbers cL_numbers kL_numbers
  have bL_numbers := FL_numbers.binds (ps := ["_law_cell", "_law_at", "_law_many"]) fun _ _ _ _ _ _ us hl => match us, hl with | [_, _, _], _ => rfl
  have FL_same := fun_mk (st := s_L_same) lL_same cL_same kL_same
  have bL_same := FL_same.binds (ps := ["_law_actual", "_law_expected"]) fun _ _ _ _ _ _ us hl => match us, hl with | [_, _], _ => rfl
  have FL_weights := fun_mk (st := s_L_weights) lL_weights cL_weights kL_weights
  have bL_weights := FL_weights.binds (ps := ["_law_numbers_here"]) fun _ _ _ _ _ _ us hl => match us, hl with | [_], _ => rfl
  have Flaw := fun_mk (st := s_law) llaw claw klaw
  have blaw := Flaw.binds (ps := ["_law_script"]) fun _ _ _ _ _ _ us hl => match us, hl with | [_], _ => rfl
  let T : Txt K mg := { a_greatest := _, d_greatest := _, F_greatest := Fgreatest, g_greatest := PySem.W.mg_of X G agreatest, b_greatest := bgreatest, a_by_number := _, d_by_number := _, F_by_number := Fby_number, g_by_number := PySem.W.mg_of X G aby_number, b_by_number := bby_number, a_L_numbers := _, d_L_numbers := _, F_L_numbers := FL_numbers, g_L_numbers := PySem.W.mg_of X G aL_numbers, b_L_numbers := bL_numbers, a_L_same := _, d_L_same := _, F_L_same := FL_same, g_L_same := PySem.W.mg_of X G aL_same, b_L_same := bL_same, a_L_weights := _, d_L_weights := _, F_L_weights := FL_weights, g_L_weights := PySem.W.mg_of X G aL_weights, b_L_weights := bL_weights, a_law := _, d_law := _, F_law := Flaw, g_law := PySem.W.mg_of X G alaw, b_law := blaw, z_abs := PySem.W.mg_none_of X G zabs, z_bool := PySem.W.mg_none_of X G zbool, z_enumerate := PySem.W.mg_none_of X G zenumerate, z_int := PySem.W.mg_none_of X G zint, z_isinstance := PySem.W.mg_none_of X G zisinstance, z_len := PySem.W.mg_none_of X G zlen, z_list := PySem.W.mg_none_of X G zlist, z_max := PySem.W.mg_none_of X G zmax, z_min := PySem.W.mg_none_of X G zmin, z_range := PySem.W.mg_none_of X G zrange, z_str := PySem.W.mg_none_of X G zstr, z_sum := PySem.W.mg_none_of X G zsum, z_tuple := PySem.W.mg_none_of X G ztuple }
  exact ⟨_, fun s v => .of_eq rfl, fun base _ _ => ok_law (P := l.prog) (w := w) (base := base) T⟩
theorem walk {l : PySem.W.OpenLaw} {q : Program} {loose : List Str} {XP : (Str → Option Value) → Heap → Prop} {YP : World → Heap → Prop} {d : DefRec} {K : Params → PySem.W.Frag} (hn : l.most = some 63) (hdf : d.params.defaults = [])
    (hY : ∀ (w : World) (h : Heap), YP w h → (K w.params).In h)
    (F : ∀ (w : World) (mg : Str → Option Value) (fa : Addr) (h : Heap), (K w.params).In h → h.Ns mainGlobals mg → mg d.name = some (.ref fa) →
      ∃ fd : FuncData, (∀ (s : Shared) (u : Value), BindsTo s fd ⟨[u], []⟩ [("_law_script", u)]) ∧ ∀ base : Heap, (K w.params).In base → base.Ns mainGlobals mg → FnOk l.prog w (K w.params) mg base CX0 2 fa fd ["_law_script"] (sp_law (K w.params))) :
    PySem.W.WalkO q loose XP YP l.row.toRowW d [] (fun f vs => PySem.call f vs) :=
  L2.walk_of (n := 63) (k := 2) (x := "_law_script") (CX := fun _ => CX0) (sp := fun w => sp_law (K w.params)) hn (by decide) hdf ⟨rfl, by decide, by decide⟩ hY F (fun _ _ a ns hl _ hS => ⟨a, ns, rfl, hS, hl, fun _ => rfl⟩) fun _ _ _ _ _ z => z
end My

open PySem PySem.W PyProof.Rows
set_option maxRecDepth 100000 in
set_option maxHeartbeats 0 in
theorem PySem.Challenge.cw_servedalone_k03_greatest_and_by_number_holds : PySem.Challenge.rw_servedalone_k03_greatest_and_by_number.Holds := by
  w_on; o_law; k_head; (case hw => w_witness2)
  k_fill
  refine My.walk (l := PySem.Challenge.rw_servedalone_k03_greatest_and_by_number) rfl rfl (fun w h Y => PySem.W.kIn_of Y) ?F
  case F =>
    intro w mg fa h KX G hmg
    refine' My.all_mk KX G hmg ?agreatest ?lgreatest ?cgreatest ?kgreatest ?aby_number ?lby_number ?cby_number ?kby_number ?aL_numbers ?lL_numbers ?cL_numbers ?kL_numbers ?aL_same ?lL_same ?cL_same ?kL_same ?aL_weights ?lL_weights ?cL_weights ?kL_weights ?alaw ?llaw ?claw ?klaw ?zabs ?zbool ?zenumerate ?zint ?zisinstance ?zlen ?zlist ?zmax ?zmin ?zrange ?zstr ?zsum ?ztuple
    (case agreatest => k_is)
    (case lgreatest => k_is)
    (case cgreatest => k_is)
    (case kgreatest => k_is)
    (case aby_number => k_is)
    (case lby_number => k_is)
    (case cby_number => k_is)
    (case kby_number => k_is)
    (case aL_numbers => k_is)
    (case lL_numbers => k_is)
    (case cL_numbers => k_is)
    (case kL_numbers => k_is)
    (case aL_same => k_is)
    (case lL_same => k_is)
    (case cL_same => k_is)
    (case kL_same => k_is)
    (case aL_weights => k_is)
    (case lL_weights => k_is)
    (case cL_weights => k_is)
    (case kL_weights => k_is)
    (case alaw => k_is)
    (case llaw => k_is)
    (case claw => k_is)
    (case klaw => k_is)
    (case zabs => k_is)
    (case zbool => k_is)
    (case zenumerate => k_is)
    (case zint => k_is)
    (case zisinstance => k_is)
    (case zlen => k_is)
    (case zlist => k_is)
    (case zmax => k_is)
    (case zmin => k_is)
    (case zrange => k_is)
    (case zstr => k_is)
    (case zsum => k_is)
    (case ztuple => k_is)
#print axioms PySem.Challenge.cw_servedalone_k03_greatest_and_by_number_holds
