import PyProof.Rows.All
import Wide.All
import OpenK.AllK
import Wide.FinOn
import HandS.ForMost
import HandS.Walk
import HandS.IsInst
import HandS.Evl
import HandS.Property
import HandS.Conv
import HandS.TupAny
import KE.KTupSum
import KE.GoesMore
import KE.GoesEnum
import KE.GoesZip
import PySem.Challenge.RW_servedalone_k56_fair_choices
set_option Elab.async false
set_option linter.all false
set_option maxRecDepth 100000
set_option maxHeartbeats 4000000
namespace L2
open PySem PySem.Spec PyProof.Rows

/-! ### own rules: either of two readings; sums, enumerate and walks of lists or tuples -/
theorem PI.or {X : Cx} {tg iter : Expr} {w1 w2 : TI} (h1 : PI X tg iter w1) (h2 : PI X tg iter w2) : PI X tg iter (fun σ H R => w1 σ H R ∨ w2 σ H R) := by
  refine ⟨fun pins s σ H R I h => ?_⟩
  rcases h with h | h
  · exact h1.run pins s σ H R I h
  · exact h2.run pins s σ H R I h

section
variable {X : Cx}
def rAddG (K : PySem.W.Frag) : R2 := fun x y H Q => (rI0 fun i j => .int (i + j)) x y H Q ∨ rCatT K x y H Q ∨ rCat x y H Q
theorem op_addG : OpR X (binaryOp .Add) (rAddG X.K) := op_add.or (op_catT.or op_cat)
def rEqG (K : PySem.W.Frag) : R2 := fun x y H Q => rEq x y H Q ∨ rEqD K x y H Q
def rNeG (K : PySem.W.Frag) : R2 := fun x y H Q => rNe x y H Q ∨ rNeD K x y H Q
theorem op_eqG (hu : X.A.units + 64 < cLine) : OpR X (compareOp .Eq) (rEqG X.K) := op_eq.or (op_eqD hu)
theorem op_neG (hu : X.A.units + 64 < cLine) : OpR X (compareOp .NotEq) (rNeG X.K) := op_ne.or (op_neD hu)
def rSlG (K : PySem.W.Frag) : V → Option Int → Option Int → Hp → VK → Prop := fun x lo hi H Q => rSlL K x lo hi H Q ∨ rSlA K x lo hi H Q
theorem sl_seqG : SlR X (rSlG X.K) := sl_list.or sl_tupA
def rSumS (K : PySem.W.Frag) : List V → Hp → VK → Prop := fun vs H Q => ∃ (a : Addr) (ns : List Int), vs = [V.ref a] ∧ (SqL K H a (ns.map V.int) ∨ SqT K H a (ns.map V.int)) ∧ Q (.int ns.sum) H
theorem cr_sumS (hc : X.calm = true) : CallR X (.builtin "sum") (rSumS X.K) := by
  intro pins s σ H vs us Q I r h
  obtain ⟨a, ns, rfl, hs, q⟩ := h
  rw [Vals.ref1 r]
  rcases hs with hs | hs
  · obtain ⟨its, rv, hl, _⟩ := I.list hs
    exact sum_raw (I.ok.hd hc) hl.isList rv.ints fun h' tk t' hk => ⟨.int _, H, I.kept hk, ⟨_, rfl⟩, q⟩
  · obtain ⟨its, rv, ht, _⟩ := I.tuple hs
    have hi := rv.ints
    obtain ⟨xs, e⟩ := hi.allInts.items
    have hn : numsOf (intItems xs).toList = ns := by rw [← e]; exact hi.numsOf
    rw [nums_intItems] at hn
    have ht' : s.heap.IsTuple a its.toArray := ht
    rw [e] at ht'
    refine PySem.W.ktm_sumG (I.ok.hd hc) ht' fun h' tk t' hk => ⟨.int ns.sum, H, I.kept hk, ⟨t', ?_⟩, q⟩
    rw [preSum_eq, List.take_of_length_le (by simp), hn]

end

/-! ### enumerate(tuple) -/
def IteT (K : PySem.W.Frag) (a : Addr) : It :=
  ⟨fun i H => ∃ (xs : List V) (x : V), SqT K H a xs ∧ xs[i]? = some x, fun i H v H' => ∃ T x, v = .ref T ∧ H T = none ∧ H' = upd H T (.tup [.int (i : Nat), x]) ∧ ∀ xs, SqT K H a xs → xs[i]? = some x, fun i H => ∃ xs : List V, SqT K H a xs ∧ xs.length ≤ i⟩
theorem tup_ne_iter {h : Heap} {a it : Addr} {items : Array Value} {i : Nat} (p : IsTup h a items) (q : h.IsTupleIter it a i) : a ≠ it := by
  obtain ⟨o, ho, hc, _⟩ := p
  obtain ⟨o', ho', hc', _⟩ := q
  intro e
  subst e
  rw [ho] at ho'
  cases ho'
  rw [hc] at hc'
  exact absurd hc' (by decide)
theorem meets_enumerate_newT (l : Addr) (items : Array Value) :
    Meets (Builtin.«enumerate.__new__» ⟨[.type "enumerate", .ref l], []⟩) (fun _ R s => s.heap.IsTuple l items ∧
      R (.ok (.ret (.ref (s.heap.push { cls := .type "tuple_iterator", data := .fields #[.ref l, .int 0 0] }).objs.size)))
        { s with heap := (s.heap.push { cls := .type "tuple_iterator", data := .fields #[.ref l, .int 0 0] }).push { cls := .type "enumerate", data := .fields #[.none, .bool false, .ref s.heap.objs.size, rawInt 0, .none, .none] } }) :=
  .of_wp fun prog w A R s h => by
    obtain ⟨hp, g, d, tk, os⟩ := s; obtain ⟨h1, h⟩ := h
    have hsub := sub_enumerate
    have q1 : ∀ {A' : Around} {E : Value → Shared → Prop} {Q : Value → Shared → Prop}, Q (.ref hp.objs.size) ⟨hp.push { cls := .type "tuple_iterator", data := .fields #[.ref l, .int 0 0] }, g, d, tk, os⟩ → wpAny (model prog w) A' (pyIter (.ref l)) Q E ⟨hp, g, d, tk, os⟩ :=
      fun q => wpAny_pyIter_tuple (s := ⟨hp, g, d, tk, os⟩) h1 q
    wp_walk using q1
    refine wpAny_stack_any fun st => wpAny_pure ?_
    split
    · rename_i c _ _ _ _ _
      cases (c == Value.type "enumerate")
      · wp_walk using q1
        exact ⟨_, rfl, h⟩
      · wp_walk using q1
        exact ⟨_, rfl, h⟩
    · wp_walk using q1
      exact ⟨_, rfl, h⟩
theorem call_enumerate_tup {prog : Program} {w : World} {A : Around} {E : Value → Shared → Prop} {s : Shared} {l : Addr} {items : Array Value} {Q : Value → Shared → Prop} (hL : s.heap.IsTuple l items)
    (h : ∀ h', IsEnum h' (s.heap.objs.size + 1) s.heap.objs.size 0 .none → h'.IsTupleIter s.heap.objs.size l 0 → h'.objs.size = s.heap.objs.size + 2 →
      (∀ b o, s.heap.get? b = some o → h'.get? b = some o) → Q (.ref (s.heap.objs.size + 1)) { s with heap := h' }) :
    wpAny (model prog w) A (call (.type "enumerate") [.ref l]) Q E s := by
  refine callType_new F.called_enumerate (by decide) (F.typeCall_enumerate_1 _) (F.newCall_enumerate_1 _) (fun obj => F.args_object_init_2 obj _) F.entry_enumerate_new
    (meets_enumerate_newT l items) ⟨hL, ?_⟩
  have hz : (s.heap.push { cls := .type "tuple_iterator", data := .fields #[.ref l, .int 0 0] }).objs.size = s.heap.objs.size + 1 := Heap.size_push ..
  show _ ∧ _
  rw [hz]
  have he : IsEnum ((s.heap.push { cls := .type "tuple_iterator", data := .fields #[.ref l, .int 0 0] }).push
      { cls := .type "enumerate", data := .fields #[.none, .bool false, .ref s.heap.objs.size, rawInt 0, .none, .none] }) (s.heap.objs.size + 1) s.heap.objs.size 0 .none := by
    have := Heap.get?_push_size (s.heap.push { cls := .type "tuple_iterator", data := .fields #[.ref l, .int 0 0] })
      (o := { cls := .type "enumerate", data := .fields #[.none, .bool false, .ref s.heap.objs.size, rawInt 0, .none, .none] }) rfl
    rw [hz] at this; exact this
  refine ⟨⟨_, he, rfl⟩, h _ he ⟨_, Heap.get?_push_of_some _ (Heap.get?_push_size _ rfl), rfl, rfl⟩ (by rw [Heap.size_push, hz]) fun b o x => Heap.get?_push_of_some _ (Heap.get?_push_of_some _ x)⟩
theorem turn_enumT {P : Program} {w : World} {K : PySem.W.Frag} {elts : List Expr} {kk : Nat} {tpos : Pos} (a e it : Addr) :
    Turn P w K (.Tuple elts kk tpos) (IteT K a) [e, it] e (fun i h => (∃ old, IsEnum h e it ((i : Nat) : Int) old) ∧ h.IsTupleIter it a i ∧ e ≠ it) where
  mem := by simp
  obj := fun i h st b hb => by
    obtain ⟨⟨old, he⟩, ⟨o, ho, hc, hd⟩, _⟩ := st
    have e' : b = e ∨ b = it := by simpa using hb
    rcases e' with z | z
    · rw [z]; exact ⟨_, he, fun v q => nomatch q⟩
    · rw [z]; exact ⟨o, ho, fun v q => by rw [hd] at q; cases q⟩
  keep := fun i h h' st k => let ⟨⟨old, he⟩, hi, hne⟩ := st; ⟨⟨old, k e (by simp) _ he⟩, hi.at fun o q => k it (by simp) o q, hne⟩
  item := by
    intro X hP hw hK hc i pins s σ H E I hf st hg
    subst hP hw hK
    obtain ⟨⟨old, he⟩, hit, hne⟩ := st
    obtain ⟨xs, x, hq, hx⟩ := hg
    obtain ⟨its, rv, p, hz⟩ := I.tuple hq
    obtain ⟨u, hu, ru⟩ := rv.get hx
    have hai : a ≠ it := tup_ne_iter p hit
    have hel : e < s.heap.objs.size := Heap.lt_size he
    have hil : it < s.heap.objs.size := by obtain ⟨_, q, _⟩ := hit; exact Heap.lt_size q
    have hal : a < s.heap.objs.size := by obtain ⟨_, q, _⟩ := p; exact Heap.lt_size q
    have hae : e ≠ a := by
      obtain ⟨o, ho, hcl, _⟩ := id p
      intro z
      rw [← z, he] at ho
      cases ho
      have hcl' : (Value.type "enumerate") = Value.type "tuple" := hcl
      exact absurd hcl' (by decide)
    have hlt : i < its.toArray.size := by
      have h1 := (List.getElem?_eq_some_iff.mp hu).1
      simpa using h1
    refine wpAny_pyNext_enum_itemD (Draws.tuple (prog := X.prog) (w := X.w) (A := X.A.in1) (show X.A.in1.handled = none from I.ok.hd hc) it a hai its.toArray) he ⟨hit, p⟩ hlt hne (by simp [hne, hae]) fun y h' tk hP ho st' hT hsz hk => ?_
    have ey : y = u := by
      have h1 : its.toArray[i]? = some y := hP
      have h2 : its.toArray[i]? = some u := by simpa using hu
      rw [h1] at h2
      exact Option.some.inj h2
    subst ey
    refine ⟨_, rfl, wpAny_letOwnedTupleGo_enum (s := { s with heap := h', toks := tk + 1 }) ho fun h'' he' sb => ?_⟩
    have hT2 : h''.get? s.heap.objs.size = some { cls := .type "tuple", data := .seq #[.int i tk, y] } := (sb.2 _ (Nat.ne_of_gt hel)).trans hT
    have new : ObjOk X.prog X.w (upd H s.heap.objs.size (.tup [.int (i : Nat), x])) h'' s.heap.objs.size (.tup [.int (i : Nat), x]) :=
      ⟨by show 2 ≤ sizeLine; decide, [.int i tk, y], .cons ⟨_, rfl⟩ (.cons ru .nil), ⟨_, hT2, rfl, _, rfl⟩⟩
    have I1 : Inv X pins σ (upd H s.heap.objs.size (.tup [.int (i : Nat), x])) { s with heap := h'', toks := tk + 1 } :=
      I.turnedNew (t' := tk + 1) (ch := [e, it]) (fun b ob hb q => (sb.2 b (fun z => hb (by simp [z]))).trans (hk b ob (fun z => hb (by simp [z])) (fun z => hb (by simp [z])) q)) hf (Nat.le_refl _) new
    refine ⟨.ref s.heap.objs.size, _, I1, rfl, ⟨_, x, rfl, I.hok.fresh (Nat.le_refl _), rfl, fun ys hy => by rw [I.tuple_inj hy hq]; exact hx⟩, ⟨⟨y, ?_⟩, st'.1.at fun o q => (sb.2 it (Ne.symm hne)).trans q, hne⟩, fun b hb => ?_⟩
    · have e1 : ((i + 1 : Nat) : Int) = (i : Int) + 1 := by omega
      rw [e1]; exact he'
    · have hb' : b < s.heap.objs.size := by
        have e' : b = e ∨ b = it := by simpa using hb
        rcases e' with z | z
        · rw [z]; exact hel
        · rw [z]; exact hil
      rw [upd_ne (Nat.ne_of_lt hb')]
      exact (hf b hb).1
  done := by
    intro X hP hw hK hc i pins s σ H E I hf st hg
    subst hP hw hK
    obtain ⟨⟨old, he⟩, hit, hne⟩ := st
    obtain ⟨xs, hq, hx⟩ := hg
    obtain ⟨its, rv, p, hz⟩ := I.tuple hq
    have hai : a ≠ it := tup_ne_iter p hit
    obtain ⟨f0, f1, f2, f3, f4, f5⟩ := hf it (by simp)
    have hl := rv.length
    unfold pyNext
    have hT : s.TypeIs (.ref e) "enumerate" := ⟨_, he, rfl⟩
    refine wpAny_bind (wpAny_attempt (wpAny_callSpecial?_slot (name := Str.ofString "__next__") hT F.slot_enumerate_next
      (wpAny_call_entry F.slot_enumerate_next hT F.entry_enumerate_next ?_ (F.args_enumerate_next_1 _))))
    show wpAny _ _ (field (.ref e) 2 >>= _) _ _ _
    refine wpAny_bind (wpAny_field he rfl (x := .ref it) rfl ?_)
    refine wpAny_bind (wpAny_nextOf_tuple_end (show X.A.in1.handled = none from I.ok.hd hc) hit p (by simp; omega) fun h' x he' hx' => ?_)
    obtain ⟨o, ho, hcx⟩ := hx'
    refine wpAny_bind (wpAny_isInstance (T := "StopIteration") (b := true) ⟨o, ho, hcx⟩ isSubtype_stop ?_)
    exact wpAny_pure ⟨rfl, I.turned (t' := s.toks) (fun b o hb q => he' b o hb q) f0 f1 f3 f4 f5⟩
  self := fun A i s Q E st h => let ⟨⟨_, he⟩, _⟩ := st; wpAny_pyIter_enum he h
def iEnumT (K : PySem.W.Frag) (ta : TA) : TI := fun σ H R => ta σ H fun vs H1 => ∃ a xs, vs = [.ref a] ∧ SqT K H1 a xs ∧ R (IteT K a) H1
theorem pi_enumT {X : Cx} {e : Expr} {ta : TA} {p pos tpos : Pos} {elts : List Expr} {kk : Nat} (hg : Gl X "enumerate") (hm : X.mg "enumerate" = none) (ha : PA X [e] ta) (hs : starEach [e] X.env = [(false, eval e X.env)] := by rfl) :
    PI X (.Tuple elts kk tpos) (.Call (.Name "enumerate" p) [e] [] pos) (iEnumT X.K ta) := by
  refine ⟨fun pins s σ H R I h => ?_⟩
  refine Call_ (ld_blt I hg hm boot_enumerate (PyProof.Rows.callWith_type1 (thn (ha.run pos pins s σ H _ I h) fun us s1 ⟨vs, H1, I1, r1, q1⟩ => ?_) hs rfl))
  obtain ⟨a, xs, ex, hq, q⟩ := q1
  subst ex
  cases r1 with
  | cons r rr =>
    cases rr
    cases r
    obtain ⟨its, rv, p', hz⟩ := I1.tuple hq
    refine call_enumerate_tup p' fun h' he hit hsz hk => wpAny_pyIter_enum he ?_
    have I2 : Inv X pins σ H1 { s1 with heap := h' } := I1.kept (t' := s1.toks) hk
    refine ⟨s1.heap.objs.size + 1, [s1.heap.objs.size + 1, s1.heap.objs.size], _, _, H1, rfl, I2, turn_enumT a (s1.heap.objs.size + 1) s1.heap.objs.size, ⟨⟨.none, he⟩, hit, Nat.succ_ne_self _⟩, fun b hb => ?_, q⟩
    have e' : b = s1.heap.objs.size + 1 ∨ b = s1.heap.objs.size := by simpa using hb
    have hle : s1.heap.objs.size ≤ b := by
      rcases e' with z | z
      · rw [z]; exact Nat.le_add_right _ _
      · rw [z]; exact Nat.le_refl _
    exact I1.fpOk hle (I1.hok.fresh hle)
theorem walk_enumT {K : PySem.W.Frag} {a : Addr} {xs : List V} : Walk (IteT K a) xs.length (fun H => SqT K H a xs) (YPair (fun i => some (.int (i : Nat))) (fun i => xs[i]?)) := by
  refine ⟨fun i _ hi q => ⟨xs, xs[i], q, by simp [hi]⟩, fun _ q => ⟨xs, q, Nat.le_refl _⟩, fun i H v H' _ q y => ?_⟩
  obtain ⟨T, x, h1, h2, h3, h4⟩ := y
  exact ⟨T, .int (i : Nat), x, h1, h2, h3, rfl, h4 xs q⟩
end L2

namespace L2
open PySem PySem.Spec PyProof.Rows

/-! ### names for readings -/
section
variable {X : Cx}
def rInt1 : List V → Hp → VK → Prop := fun xs H Q => (∃ i, xs = [.int i] ∧ Q (.int i) H) ∨ ∃ k, xs = [.bl k] ∧ Q (.int (if k then 1 else 0)) H
theorem cr_int1 : CallR X (.type "int") rInt1 := call_int1
def rAbs : List V → Hp → VK → Prop := fun xs H Q => ∃ i, xs = [.int i] ∧ Q (.int (if i < 0 then -i else i)) H
theorem cr_abs : CallR X (.builtin "abs") rAbs := call_abs
def rMax2 : List V → Hp → VK → Prop := fun xs H Q => ∃ i j, xs = [.int i, .int j] ∧ Q (.int (if j > i then j else i)) H
theorem cr_max2 (hc : X.calm = true) : CallR X (.builtin "max") rMax2 := call_max2 hc
def rMin2 : List V → Hp → VK → Prop := fun xs H Q => ∃ i j, xs = [.int i, .int j] ∧ Q (.int (if j < i then j else i)) H
theorem cr_min2 (hc : X.calm = true) : CallR X (.builtin "min") rMin2 := call_min2 hc
def rLenS (K : PySem.W.Frag) : List V → Hp → VK → Prop := fun xs H Q => ∃ p ys, xs = [.ref p] ∧ (SqL K H p ys ∨ SqT K H p ys) ∧ Q (.int ys.length) H
theorem cr_lenS : CallR X (.builtin "len") (rLenS X.K) := call_len_seq
def rListS (K : PySem.W.Frag) : List V → Hp → VK → Prop := fun xs H Q => ∃ p ys, xs = [.ref p] ∧ (SqL K H p ys ∨ SqT K H p ys) ∧ ∀ l, H l = none → Q (.ref l) (upd H l (.lst ys))
theorem cr_listS : CallR X (.type "list") (rListS X.K) := call_list_of
def rTupS (K : PySem.W.Frag) : List V → Hp → VK → Prop := fun xs H Q => ∃ p ys, xs = [.ref p] ∧ ((SqL K H p ys ∧ ∀ l, H l = none → Q (.ref l) (upd H l (.tup ys))) ∨ (SqT K H p ys ∧ Q (.ref p) H))
theorem cr_tupS : CallR X (.type "tuple") (rTupS X.K) := call_tuple_of
def rIsN : R2 := fun x y H Q => y = .non ∧ Q (.bl (decide (x = .non))) H
def rNotN : R2 := fun x y H Q => y = .non ∧ Q (.bl (!decide (x = .non))) H
theorem op_isNN : OpR X (compareOp .Is) rIsN := op_isN
theorem op_notNN : OpR X (compareOp .IsNot) rNotN := op_notN
def tTru (K : PySem.W.Frag) (ta : TE) : TT := fun σ H Q => ta σ H fun x H' => ∃ k, TruV K x H' k ∧ Q k H'
theorem pt_tru {a : Expr} {ta : TE} (ha : PE X a ta) (he : ∀ whole, isTrue a X.env whole = (do let v ← whole; standAt a.pos; holding [v] (truthy v))) : PT X a (tTru X.K ta) := pt_truth ha he
end

/-! ### the readings, one step each -/
def nth (ns : List Int) (i : Int) : Int := ns.getD i.toNat 0
theorem nth_at {ns : List Int} {i : Int} (h0 : 0 ≤ i) (h1 : i < ns.length) : atI (ns.map V.int) i = some (.int (nth ns i)) := by
  have e : i = ((i.toNat : Nat) : Int) := (Int.toNat_of_nonneg h0).symm
  have h2 : i.toNat < ns.length := by omega
  have g : (ns.map V.int)[i.toNat]? = some (.int (nth ns i)) := by
    rw [List.getElem?_map, List.getElem?_eq_getElem h2]
    unfold nth
    rw [List.getD_eq_getElem?_getD, List.getElem?_eq_getElem h2]
    rfl
  exact at_of e g
theorem nth_nat (ns : List Int) (i : Nat) : nth ns (i : Int) = ns.getD i 0 := rfl
theorem nth_mem {ns : List Int} {i : Int} (h0 : 0 ≤ i) (h1 : i < ns.length) : nth ns i ∈ ns := by
  have h2 : i.toNat < ns.length := by omega
  unfold nth
  rw [List.getD_eq_getElem?_getD, List.getElem?_eq_getElem h2]
  exact List.getElem_mem h2

theorem Same.seqT {K : PySem.W.Frag} {H H' : Hp} {a : Addr} {xs : List V} (e : Same H H') (h : SqT K H a xs) : SqT K H' a xs := by
  rcases h with (h | ⟨o, h⟩) | h
  · exact .inl (.inl (e _ _ h))
  · exact .inl (.inr ⟨o, e _ _ h⟩)
  · exact .inr h
/-- a list (true) or a tuple (false) -/
def Sq (b : Bool) (K : PySem.W.Frag) (H : Hp) (a : Addr) (xs : List V) : Prop := match b with
  | true => SqL K H a xs
  | false => SqT K H a xs
theorem Sq.or {b : Bool} {K : PySem.W.Frag} {H : Hp} {a : Addr} {xs : List V} (h : Sq b K H a xs) : SqL K H a xs ∨ SqT K H a xs := by
  cases b
  · exact .inr h
  · exact .inl h
theorem Sq.lst {K : PySem.W.Frag} {H : Hp} {a : Addr} {xs : List V} (h : H a = some (.lst xs)) : Sq true K H a xs := SqL.of h
theorem Sq.tup {K : PySem.W.Frag} {H : Hp} {a : Addr} {xs : List V} (h : H a = some (.tup xs)) : Sq false K H a xs := SqT.of h
theorem Same.sq {b : Bool} {K : PySem.W.Frag} {H H' : Hp} {a : Addr} {xs : List V} (e : Same H H') (h : Sq b K H a xs) : Sq b K H' a xs := by
  cases b
  · exact e.seqT h
  · exact e.seq h
theorem Same.at {H H' : Hp} {a : Addr} {o : HO} (e : Same H H') (h : H a = some o) : H' a = some o := e a o h
theorem Same.new {H : Hp} {p : Addr} {o : HO} (h : H p = none) : Same H (upd H p o) := fun b x e => by
  rw [upd_ne (ne_of_none e h)]
  exact e
theorem Same.mut {H H' : Hp} {p : Addr} {o : HO} (e : Same H H') (h : H p = none) : Same H (upd H' p o) := fun a u ha => by
  rw [upd_ne (ne_of_none ha h)]
  exact e a u ha

section
variable {K : PySem.W.Frag} {σ σ' : St} {H : Hp} {v x y : V} {ta tb te : TE} {t u : TS} {D : Ends} {c d : TT} {Q : VK} {QB : Bool → Hp → Prop} {QA : List V → Hp → Prop} {r : R2}
theorem go_start (e : σ = σ') (h : t D σ' H) : t D σ H := by rw [e]; exact h
-- values
theorem w_var {i : Nat} (h : σ[i]? = some (some v)) (q : Q v H) : tVar i σ H Q := ⟨v, h, q⟩
theorem w_c (q : Q v H) : tC v σ H Q := q
theorem w_op (q : ta σ H fun x H1 => tb σ H1 fun y H2 => r x y H2 Q) : tOp r ta tb σ H Q := q
theorem w_un {r : V → Hp → VK → Prop} (q : ta σ H fun x H1 => r x H1 Q) : tUn r ta σ H Q := q
theorem w_rU {g : Int → V} {i : Int} (q : Q (g i) H) : rU g (.int i) H Q := ⟨i, rfl, q⟩
theorem w_I0 {g : Int → Int → V} {i j : Int} (q : Q (g i j) H) : rI0 g (.int i) (.int j) H Q := ⟨i, j, rfl, rfl, q⟩
theorem w_I {C : Int → Int → Prop} {g : Int → Int → V} {i j : Int} (hc : C i j) (q : Q (g i j) H) : rI C g (.int i) (.int j) H Q := ⟨i, j, rfl, rfl, hc, q⟩
theorem w_addI {i j : Int} (q : Q (.int (i + j)) H) : rAddG K (.int i) (.int j) H Q := .inl ⟨i, j, rfl, rfl, q⟩
theorem w_eqI {i j : Int} (q : Q (.bl (decide (i = j))) H) : rEqG K (.int i) (.int j) H Q := .inl ⟨rfl, by
  have e : decide (V.int i = V.int j) = decide (i = j) := by
    rw [dec_int]
    by_cases h : i = j
    · subst h; simp
    · rw [decide_eq_false h]; exact beq_eq_false_iff_ne.mpr h
  rw [e]; exact q⟩
theorem w_neI {i j : Int} (q : Q (.bl (!decide (i = j))) H) : rNeG K (.int i) (.int j) H Q := .inl ⟨rfl, by
  have e : decide (V.int i = V.int j) = decide (i = j) := by
    rw [dec_int]
    by_cases h : i = j
    · subst h; simp
    · rw [decide_eq_false h]; exact beq_eq_false_iff_ne.mpr h
  rw [e]; exact q⟩
theorem w_eqS (hs : scal x y = true) (q : Q (.bl (decide (x = y))) H) : rEqG K x y H Q := .inl ⟨hs, q⟩
theorem w_eqD {d e : PyData} (hd : Dp K H x d) (he : Dp K H y e) (sd : SeqAt.shaped d = true) (se : SeqAt.shaped e = true) (q : Q (.bl (PyData.eqv d e)) H) : rEqG K x y H Q := .inr ⟨d, e, hd, he, sd, se, q⟩
theorem w_neD {d e : PyData} (hd : Dp K H x d) (he : Dp K H y e) (sd : SeqAt.shaped d = true) (se : SeqAt.shaped e = true) (q : Q (.bl (!PyData.eqv d e)) H) : rNeG K x y H Q := .inr ⟨d, e, hd, he, sd, se, q⟩
theorem w_isN (q : Q (.bl (decide (x = .non))) H) : rIsN x .non H Q := ⟨rfl, q⟩
theorem w_isNn (q : Q (.bl true) H) : rIsN .non .non H Q := ⟨rfl, q⟩
theorem w_isNi {i : Int} (q : Q (.bl false) H) : rIsN (.int i) .non H Q := ⟨rfl, q⟩
theorem w_isNb {b : Bool} (q : Q (.bl false) H) : rIsN (.bl b) .non H Q := ⟨rfl, q⟩
theorem w_isNs {z : Str} (q : Q (.bl false) H) : rIsN (.str z) .non H Q := ⟨rfl, q⟩
theorem w_isNr {a : Addr} (q : Q (.bl false) H) : rIsN (.ref a) .non H Q := ⟨rfl, q⟩
theorem w_notNn (q : Q (.bl false) H) : rNotN .non .non H Q := ⟨rfl, q⟩
theorem w_notNi {i : Int} (q : Q (.bl true) H) : rNotN (.int i) .non H Q := ⟨rfl, q⟩
theorem w_notNb {b : Bool} (q : Q (.bl true) H) : rNotN (.bl b) .non H Q := ⟨rfl, q⟩
theorem w_notNs {z : Str} (q : Q (.bl true) H) : rNotN (.str z) .non H Q := ⟨rfl, q⟩
theorem w_notNr {a : Addr} (q : Q (.bl true) H) : rNotN (.ref a) .non H Q := ⟨rfl, q⟩
theorem w_notN (q : Q (.bl (!decide (x = .non))) H) : rNotN x .non H Q := ⟨rfl, q⟩
theorem w_cb {r : List V → Hp → VK → Prop} {ta : TA} (q : ta σ H fun vs H1 => r vs H1 Q) : tCB r ta σ H Q := q
theorem w_aNil (q : QA [] H) : tNil σ H QA := q
theorem w_aCons {tr : TA} (q : ta σ H fun x H1 => tr σ H1 fun xs H2 => QA (x :: xs) H2) : tCons ta tr σ H QA := q
theorem w_int1 {i : Int} (q : Q (.int i) H) : rInt1 [.int i] H Q := .inl ⟨i, rfl, q⟩
theorem w_int1b {k : Bool} (q : Q (.int (if k then 1 else 0)) H) : rInt1 [.bl k] H Q := .inr ⟨k, rfl, q⟩
theorem w_abs {i : Int} (q : Q (.int (if i < 0 then -i else i)) H) : rAbs [.int i] H Q := ⟨i, rfl, q⟩
theorem w_max2 {i j : Int} (q : Q (.int (if j > i then j else i)) H) : rMax2 [.int i, .int j] H Q := ⟨i, j, rfl, q⟩
theorem w_min2 {i j : Int} (q : Q (.int (if j < i then j else i)) H) : rMin2 [.int i, .int j] H Q := ⟨i, j, rfl, q⟩
theorem w_lenS {p : Addr} {ys : List V} {b : Bool} (h : Sq b K H p ys) (q : Q (.int ys.length) H) : rLenS K [.ref p] H Q := ⟨p, ys, rfl, h.or, q⟩
theorem w_lenI {p : Addr} {ns : List Int} {b : Bool} (h : Sq b K H p (ns.map V.int)) (q : Q (.int ns.length) H) : rLenS K [.ref p] H Q := ⟨p, _, rfl, h.or, by rw [List.length_map]; exact q⟩
theorem w_sumI {p : Addr} {ns : List Int} {b : Bool} (h : Sq b K H p (ns.map V.int)) (q : Q (.int ns.sum) H) : rSumS K [.ref p] H Q := ⟨p, ns, rfl, h.or, q⟩
theorem w_listS {p : Addr} {ys : List V} {b : Bool} (h : Sq b K H p ys) (q : ∀ l, H l = none → Q (.ref l) (upd H l (.lst ys))) : rListS K [.ref p] H Q := ⟨p, ys, rfl, h.or, q⟩
theorem w_tupL {p : Addr} {ys : List V} (h : Sq true K H p ys) (q : ∀ l, H l = none → Q (.ref l) (upd H l (.tup ys))) : rTupS K [.ref p] H Q := ⟨p, ys, rfl, .inl ⟨h, q⟩⟩
theorem w_tupT {p : Addr} {ys : List V} (h : Sq false K H p ys) (q : Q (.ref p) H) : rTupS K [.ref p] H Q := ⟨p, ys, rfl, .inr ⟨h, q⟩⟩
theorem w_ix {b : Bool} {p : Addr} {xs : List V} {i : Int} (h : Sq b K H p xs) (ha : atI xs i = some v) (q : Q v H) : rIx K (.ref p) (.int i) H Q := by
  rcases h.or with h | h
  · exact .inl ⟨p, xs, i, v, rfl, rfl, h, ha, q⟩
  · exact .inr (.inl ⟨p, xs, i, v, rfl, rfl, h, ha, q⟩)
theorem w_ixI {b : Bool} {p : Addr} {ns : List Int} {i : Int} (h : Sq b K H p (ns.map V.int)) (h0 : 0 ≤ i) (h1 : i < ns.length) (q : Q (.int (nth ns i)) H) : rIx K (.ref p) (.int i) H Q := w_ix h (nth_at h0 h1) q
theorem w_tupD {ta : TA} (q : ta σ H fun xs H1 => xs.length ≤ sizeLine ∧ ∀ p, H1 p = none → Q (.ref p) (upd H1 p (.tup xs))) : tTup ta σ H Q := q
theorem w_lstD {ta : TA} (q : ta σ H fun xs H1 => xs.length ≤ sizeLine ∧ ∀ p, H1 p = none → Q (.ref p) (upd H1 p (.lst xs))) : tLst ta σ H Q := q
theorem w_call {sp : Sp} {dvs : List V} {E : XK} {ta : TA} (q : ta σ H fun vs H1 => sp (vs ++ dvs) H1 Q E) : tCall sp dvs E ta σ H Q := q
theorem w_andV (q : ta σ H fun x H1 => ∃ c, x = .bl c ∧ if c = true then tb σ H1 Q else Q (.bl false) H1) : tAndV ta tb σ H Q := q
theorem w_orV (q : ta σ H fun x H1 => ∃ c, x = .bl c ∧ if c = true then Q (.bl true) H1 else tb σ H1 Q) : tOrV ta tb σ H Q := q
theorem w_notV (q : ta σ H fun x H1 => ∃ c, x = .bl c ∧ Q (.bl (!c)) H1) : tNotV ta σ H Q := q
-- methods of lists
theorem w_bm {T : String} {r : V → List V → Hp → VK → Prop} {to : TE} {ta : TA} (q : to σ H fun x H1 => tyV K T x H1 ∧ ta σ H1 fun xs H2 => r x xs H2 Q) : tBM K T r to ta σ H Q := q
theorem w_append {l : Addr} {xs : List V} (h : H l = some (.lst xs)) (hz : xs.length < sizeLine) (q : Q .non (upd H l (.lst (xs ++ [y])))) : rAppend (.ref l) [y] H Q := ⟨l, xs, y, rfl, rfl, h, hz, q⟩
theorem w_tyL {l : Addr} {xs : List V} {B : Prop} (h : Sq true K H l xs) (q : B) : tyV K "list" (.ref l) H ∧ B := ⟨.inl ⟨rfl, _, h⟩, q⟩
-- tests
theorem w_test (q : ta σ H fun x H' => ∃ k, x = .bl k ∧ QB k H') : tTest ta σ H QB := q
theorem w_tB (q : ta σ H fun x H' => ∃ k, x = .bl k ∧ QB k H') : tB ta σ H QB := q
theorem w_tru (q : ta σ H fun x H' => ∃ k, TruV K x H' k ∧ QB k H') : tTru K ta σ H QB := q
theorem w_exb {b : Bool} {F : Bool → Prop} (q : F b) : ∃ k, V.bl b = .bl k ∧ F k := ⟨b, rfl, q⟩
theorem w_truB {b : Bool} {F : Bool → Prop} (q : F b) : ∃ k, TruV K (.bl b) H k ∧ F k := ⟨b, rfl, q⟩
theorem w_truI {i : Int} {F : Bool → Prop} (q : F (i != 0)) : ∃ k, TruV K (.int i) H k ∧ F k := ⟨_, rfl, q⟩
theorem w_not (q : c σ H fun b H1 => QB (!b) H1) : tNot c σ H QB := q
theorem w_and (q : c σ H fun b H1 => if b = true then d σ H1 QB else QB false H1) : tAnd c d σ H QB := q
theorem w_or (q : c σ H fun b H1 => if b = true then QB true H1 else d σ H1 QB) : tOr c d σ H QB := q
theorem w_ifE (q : c σ H fun b H1 => if b = true then ta σ H1 Q else tb σ H1 Q) : tIf c ta tb σ H Q := q
theorem w_iteD {p A B : Prop} {_ : Decidable p} (h1 : p → A) (h2 : ¬ p → B) : if decide p = true then A else B := by
  by_cases h : p
  · rw [if_pos (decide_eq_true h)]; exact h1 h
  · rw [if_neg (by simp [h])]; exact h2 h
theorem w_iteN {p A B : Prop} {_ : Decidable p} (h1 : ¬ p → A) (h2 : p → B) : if (!decide p) = true then A else B := by
  by_cases h : p
  · rw [if_neg (by simp [h])]; exact h2 h
  · rw [if_pos (by simp [h])]; exact h1 h
theorem w_iteNT {A B : Prop} (h : B) : if (!true) = true then A else B := h
theorem w_iteNF {A B : Prop} (h : A) : if (!false) = true then A else B := h
theorem w_iteB {b : Bool} {A B : Prop} (h1 : b = true → A) (h2 : b = false → B) : if b = true then A else B := by
  cases b
  · exact h2 rfl
  · exact h1 rfl
-- statements
variable {f b' c' : St → Hp → Prop} {rt : VK}
theorem w_seq (q : t ⟨u ⟨f, rt, b', c'⟩, rt, b', c'⟩ σ H) : tSeq t u ⟨f, rt, b', c'⟩ σ H := q
theorem w_asg {g : TG} (q : te σ H fun x H1 => g x σ H1 f) : tAsg te g ⟨f, rt, b', c'⟩ σ H := q
theorem w_gName {i : Nat} {N : St → Hp → Prop} (q : N (σ.set i (some v)) H) : gName i v σ H N := q
theorem w_drop (q : te σ H fun _ H1 => f σ H1) : tDrop te ⟨f, rt, b', c'⟩ σ H := q
theorem w_ret (q : te σ H rt) : tRet te ⟨f, rt, b', c'⟩ σ H := q
theorem w_retN (q : rt .non H) : tRetN ⟨f, rt, b', c'⟩ σ H := q
theorem w_ifS (q : c σ H fun b H1 => if b = true then t D σ H1 else u D σ H1) : tIfS c t u D σ H := q
theorem w_next (q : f σ H) : tNext ⟨f, rt, b', c'⟩ σ H := q
theorem w_brk (q : b' σ H) : tBreak ⟨f, rt, b', c'⟩ σ H := q
theorem w_cont (q : c' σ H) : tCont ⟨f, rt, b', c'⟩ σ H := q
theorem w_nx {f b c : St → Hp → Prop} {r : VK} (q : f σ H) : Ends.nx ⟨f, r, b, c⟩ σ H := q
theorem w_rt {f b c : St → Hp → Prop} {r : VK} (q : r v H) : Ends.rt ⟨f, r, b, c⟩ v H := q
theorem w_bk {f b c : St → Hp → Prop} {r : VK} (q : b σ H) : Ends.bk ⟨f, r, b, c⟩ σ H := q
theorem w_ct {f b c : St → Hp → Prop} {r : VK} (q : c σ H) : Ends.ct ⟨f, r, b, c⟩ σ H := q
theorem w_augI {i : Nat} {g : Int → Int → Int} {z : Int} (hx : σ[i]? = some (some (.int z))) (q : te σ H fun y H1 => ipI g (.int z) y H1 fun z H2 => f (σ.set i (some z)) H2) : tAug i te (ipI g) ⟨f, rt, b', c'⟩ σ H := ⟨_, hx, q⟩
theorem w_ipI {f : Int → Int → Int} {i j : Int} (q : Q (.int (f i j)) H) : ipI f (.int i) (.int j) H Q := ⟨i, j, rfl, rfl, q⟩
-- slices
theorem w_sl {r : V → Option Int → Option Int → Hp → VK → Prop} {tl th : TO} (q : te σ H fun x H1 => tl σ H1 fun l H2 => th σ H2 fun u H3 => r x l u H3 Q) : tSl r te tl th σ H Q := q
theorem w_noPart {QO : Option Int → Hp → Prop} (q : QO none H) : tNoPart σ H QO := q
theorem w_part {QO : Option Int → Hp → Prop} (q : te σ H fun x H1 => ∃ i, x = .int i ∧ QO (some i) H1) : tPart te σ H QO := q
theorem w_exi {i : Int} {F : Int → Prop} (q : F i) : ∃ k, V.int i = .int k ∧ F k := ⟨i, rfl, q⟩
theorem w_slL {a : Addr} {xs : List V} {lo hi : Option Int} (h : Sq true K H a xs) (q : ∀ p, H p = none → Q (.ref p) (upd H p (.lst (cutV xs lo hi)))) : rSlG K (.ref a) lo hi H Q := .inl ⟨a, xs, rfl, h, q⟩
-- loops
end
/-- what a for asks of its walk J -/
def LoopOk (J : It) (g : TG) (tb : TS) (D : Ends) (σ : St) (H : Hp) : Prop := ∃ W : Nat → Nat → St → Hp → Prop, (∃ m, W 0 m σ H) ∧ ∀ i m σ H, W i m σ H →
  (J.stop i H ∧ D.nx σ H) ∨ (J.go i H ∧ ∃ N : St → Hp → Prop, (∀ σ' H', N σ' H' → ∃ m', m' < m ∧ W (i + 1) m' σ' H') ∧ ∀ x H', J.yld i H x H' → g x σ H' fun σ2 H2 => tb { D with nx := N, ct := N, bk := D.nx } σ2 H2)
section
variable {K : PySem.W.Frag} {σ σ' : St} {H : Hp} {t : TS} {D : Ends} {g : TG} {f b' c' : St → Hp → Prop} {rt : VK}
theorem w_for {wi : TI} (q : wi σ H fun J H1 => LoopOk J g t D σ H1) : tFor wi g t D σ H := q
theorem w_iRng1 {ta : TA} {R : It → Hp → Prop} (q : ta σ H fun vs H1 => ∃ j : Int, vs = [.int j] ∧ -(2 ^ 62) ≤ j ∧ j < 2 ^ 62 ∧ R (Itr 0 j.toNat) H1) : iRng1 ta σ H R := q
theorem w_iRng2 {ta : TA} {R : It → Hp → Prop} (q : ta σ H fun vs H1 => ∃ i j : Int, vs = [.int i, .int j] ∧ (-(2 ^ 62) ≤ i ∧ i < 2 ^ 62 ∧ -(2 ^ 62) ≤ j ∧ j < 2 ^ 62) ∧ R (Itr i (j - i).toNat) H1) : iRng2 ta σ H R := q
theorem l_it {J : It} {n : Nat} {G : Hp → Prop} {Y : Nat → Hp → V → Hp → Prop} (w : Walk J n G Y) (Pv : Nat → St → Hp → Prop) (h0 : Pv 0 σ H) (hG : ∀ i σ H, i ≤ n → Pv i σ H → G H)
    (hs : ∀ i x σ H H', i < n → Pv i σ H → Y i H x H' → g x σ H' fun σ2 H2 => t ⟨Pv (i + 1), rt, f, Pv (i + 1)⟩ σ2 H2) (hd : ∀ σ H, Pv n σ H → f σ H) : LoopOk J g t ⟨f, rt, b', c'⟩ σ H := for_it w Pv h0 hG hs hd
/-- for k in range(n) -/
theorem l_range {n : Int} {k : Nat} (Pv : Nat → St → Hp → Prop) (h1 : -(2 ^ 62) ≤ n) (h2 : n < 2 ^ 62) (h0 : Pv 0 σ H)
    (hs : ∀ (i : Nat) σ' H', (i : Int) < n → Pv i σ' H' → t ⟨Pv (i + 1), rt, f, Pv (i + 1)⟩ (σ'.set k (some (.int (i : Int)))) H') (hd : ∀ σ' H', Pv n.toNat σ' H' → f σ' H') :
    ∃ j : Int, [V.int n] = [.int j] ∧ -(2 ^ 62) ≤ j ∧ j < 2 ^ 62 ∧ LoopOk (Itr 0 j.toNat) (gName k) t ⟨f, rt, b', c'⟩ σ H := by
  refine ⟨n, rfl, h1, h2, l_it walk_range Pv h0 (fun _ _ _ _ _ => trivial) (fun i x σ' H1 H2 hi hp hy => ?_) hd⟩
  obtain ⟨e, ex⟩ := hy
  subst e ex
  show gName k (V.int (0 + (i : Int))) σ' _ _
  rw [Int.zero_add]
  exact hs i σ' _ (by omega) hp
theorem l_range2 {lo n : Int} {k : Nat} (Pv : Nat → St → Hp → Prop) (h1 : -(2 ^ 62) ≤ lo ∧ lo < 2 ^ 62 ∧ -(2 ^ 62) ≤ n ∧ n < 2 ^ 62) (h0 : Pv 0 σ H)
    (hs : ∀ (i : Nat) σ' H', lo + (i : Int) < n → Pv i σ' H' → t ⟨Pv (i + 1), rt, f, Pv (i + 1)⟩ (σ'.set k (some (.int (lo + (i : Int))))) H') (hd : ∀ σ' H', Pv (n - lo).toNat σ' H' → f σ' H') :
    ∃ i j : Int, [V.int lo, V.int n] = [.int i, .int j] ∧ (-(2 ^ 62) ≤ i ∧ i < 2 ^ 62 ∧ -(2 ^ 62) ≤ j ∧ j < 2 ^ 62) ∧ LoopOk (Itr i (j - i).toNat) (gName k) t ⟨f, rt, b', c'⟩ σ H := by
  refine ⟨lo, n, rfl, h1, l_it walk_range Pv h0 (fun _ _ _ _ _ => trivial) (fun i x σ' H1 H2 hi hp hy => ?_) hd⟩
  obtain ⟨e, ex⟩ := hy
  subst e ex
  exact hs i σ' _ (by omega) hp
end

/-! ### for x in (a list or a tuple), enumerate of either: what is walked is reckoned first -/
def iSeq (K : PySem.W.Frag) (tl : TE) : TI := fun σ H R => tl σ H fun x H1 => ∃ a, x = .ref a ∧ ((∃ xs, SqL K H1 a xs) ∧ R (Itl K a) H1 ∨ (∃ xs, SqT K H1 a xs) ∧ R (Itt K a) H1)
section
variable {X : Cx}
theorem pi_seqS {tg l : Expr} {tl : TE} (hl : PE X l tl) : PI X tg l (iSeq X.K tl) := by
  refine ⟨fun pins s σ H R I h => ?_⟩
  refine thn (hl.run pins s σ H _ I h) fun v s1 ⟨x, H1, I1, r1, q1⟩ => ?_
  obtain ⟨a, e, q1⟩ := q1
  subst e
  cases r1
  rcases q1 with ⟨⟨xs, hq⟩, q⟩ | ⟨⟨xs, hq⟩, q⟩
  · obtain ⟨its, rv, p, hz⟩ := I1.list hq
    refine wpAny_pyIter_list p.isList ?_
    refine ⟨s1.heap.objs.size, [s1.heap.objs.size], _, _, H1, rfl, I1.kept (t' := s1.toks) fun b o e => Heap.get?_push_of_some _ e, turn_list a _, ⟨_, Heap.get?_push_size _ rfl, rfl, rfl⟩, fun b hb => ?_, q⟩
    have e : b = s1.heap.objs.size := by simpa using hb
    subst e
    exact I1.fpOk (Nat.le_refl _) (I1.hok.fresh (Nat.le_refl _))
  · obtain ⟨its, rv, p, hz⟩ := I1.tuple hq
    refine wpAny_pyIter_tuple (show s1.heap.IsTuple a its.toArray from p) ?_
    refine ⟨s1.heap.objs.size, [s1.heap.objs.size], _, _, H1, rfl, I1.kept (t' := s1.toks) fun b o e => Heap.get?_push_of_some _ e, turn_tuple a _, ⟨_, Heap.get?_push_size _ rfl, rfl, rfl⟩, fun b hb => ?_, q⟩
    have e : b = s1.heap.objs.size := by simpa using hb
    subst e
    exact I1.fpOk (Nat.le_refl _) (I1.hok.fresh (Nat.le_refl _))
def iEnumS (K : PySem.W.Frag) (ta : TA) : TI := fun σ H R => ta σ H fun vs H1 => ∃ a, vs = [.ref a] ∧ ((∃ xs, SqL K H1 a xs) ∧ R (Ite K a) H1 ∨ (∃ xs, SqT K H1 a xs) ∧ R (IteT K a) H1)
theorem pi_enumS {e : Expr} {ta : TA} {p pos tpos : Pos} {elts : List Expr} {kk : Nat} (hg : Gl X "enumerate") (hm : X.mg "enumerate" = none) (ha : PA X [e] ta) (hs : starEach [e] X.env = [(false, eval e X.env)] := by rfl) :
    PI X (.Tuple elts kk tpos) (.Call (.Name "enumerate" p) [e] [] pos) (iEnumS X.K ta) := by
  refine ⟨fun pins s σ H R I h => ?_⟩
  refine Call_ (ld_blt I hg hm boot_enumerate (PyProof.Rows.callWith_type1 (thn (ha.run pos pins s σ H _ I h) fun us s1 ⟨vs, H1, I1, r1, q1⟩ => ?_) hs rfl))
  obtain ⟨a, ex, q1⟩ := q1
  subst ex
  cases r1 with
  | cons r rr =>
    cases rr
    cases r
    have fp : ∀ b ∈ [s1.heap.objs.size + 1, s1.heap.objs.size], FpOk X pins H1 b := fun b hb => by
      have e' : b = s1.heap.objs.size + 1 ∨ b = s1.heap.objs.size := by simpa using hb
      have hle : s1.heap.objs.size ≤ b := by
        rcases e' with z | z
        · rw [z]; exact Nat.le_add_right _ _
        · rw [z]; exact Nat.le_refl _
      exact I1.fpOk hle (I1.hok.fresh hle)
    rcases q1 with ⟨⟨xs, hq⟩, q⟩ | ⟨⟨xs, hq⟩, q⟩
    · obtain ⟨its, rv, p', hz⟩ := I1.list hq
      refine call_enumerate_list p'.isList fun h' he hit hsz hk => wpAny_pyIter_enum he ?_
      have I2 : Inv X pins σ H1 { s1 with heap := h' } := I1.kept (t' := s1.toks) hk
      exact ⟨s1.heap.objs.size + 1, [s1.heap.objs.size + 1, s1.heap.objs.size], _, _, H1, rfl, I2, turn_enum a (s1.heap.objs.size + 1) s1.heap.objs.size, ⟨⟨.none, he⟩, hit, Nat.succ_ne_self _⟩, fp, q⟩
    · obtain ⟨its, rv, p', hz⟩ := I1.tuple hq
      refine call_enumerate_tup p' fun h' he hit hsz hk => wpAny_pyIter_enum he ?_
      have I2 : Inv X pins σ H1 { s1 with heap := h' } := I1.kept (t' := s1.toks) hk
      exact ⟨s1.heap.objs.size + 1, [s1.heap.objs.size + 1, s1.heap.objs.size], _, _, H1, rfl, I2, turn_enumT a (s1.heap.objs.size + 1) s1.heap.objs.size, ⟨⟨.none, he⟩, hit, Nat.succ_ne_self _⟩, fp, q⟩
end
section
variable {K : PySem.W.Frag} {σ : St} {H : Hp} {t : TS} {D : Ends} {g : TG} {f b' c' : St → Hp → Prop} {rt : VK}
theorem w_iSeq {tl : TE} {R : It → Hp → Prop} (q : tl σ H fun x H1 => ∃ a, x = .ref a ∧ ((∃ xs, SqL K H1 a xs) ∧ R (Itl K a) H1 ∨ (∃ xs, SqT K H1 a xs) ∧ R (Itt K a) H1)) : iSeq K tl σ H R := q
theorem w_iEnumS {ta : TA} {R : It → Hp → Prop} (q : ta σ H fun vs H1 => ∃ a, vs = [.ref a] ∧ ((∃ xs, SqL K H1 a xs) ∧ R (Ite K a) H1 ∨ (∃ xs, SqT K H1 a xs) ∧ R (IteT K a) H1)) : iEnumS K ta σ H R := q
theorem l_seq {b : Bool} {a : Addr} (xs : List V) (Pv : Nat → St → Hp → Prop) (h : Sq b K H a xs) (h0 : Pv 0 σ H) (hG : ∀ i σ H, i ≤ xs.length → Pv i σ H → Sq b K H a xs)
    (hs : ∀ (i : Nat) x σ' H', i < xs.length → xs[i]? = some x → Pv i σ' H' → g x σ' H' fun σ2 H2 => t ⟨Pv (i + 1), rt, f, Pv (i + 1)⟩ σ2 H2) (hd : ∀ σ' H', Pv xs.length σ' H' → f σ' H') :
    ∃ a', V.ref a = .ref a' ∧ ((∃ xs, SqL K H a' xs) ∧ LoopOk (Itl K a') g t ⟨f, rt, b', c'⟩ σ H ∨ (∃ xs, SqT K H a' xs) ∧ LoopOk (Itt K a') g t ⟨f, rt, b', c'⟩ σ H) := by
  refine ⟨a, rfl, ?_⟩
  cases b with
  | true =>
    refine .inl ⟨⟨xs, h⟩, l_it (walk_list (xs := xs)) Pv h0 hG (fun i x σ' H1 H2 hi hp hy => ?_) hd⟩
    obtain ⟨e, ex⟩ := hy
    subst e
    exact hs i x σ' _ hi ex hp
  | false =>
    refine .inr ⟨⟨xs, h⟩, l_it (walk_tup (xs := xs)) Pv h0 hG (fun i x σ' H1 H2 hi hp hy => ?_) hd⟩
    obtain ⟨e, ex⟩ := hy
    subst e
    exact hs i x σ' _ hi ex hp
theorem l_enum {b : Bool} {a : Addr} (xs : List V) (Pv : Nat → St → Hp → Prop) (h : Sq b K H a xs) (h0 : Pv 0 σ H) (hG : ∀ i σ H, i ≤ xs.length → Pv i σ H → Sq b K H a xs)
    (hs : ∀ (i : Nat) x (T : Addr) σ' H', i < xs.length → xs[i]? = some x → Pv i σ' H' → H' T = none → g (.ref T) σ' (upd H' T (.tup [.int (i : Int), x])) fun σ2 H2 => t ⟨Pv (i + 1), rt, f, Pv (i + 1)⟩ σ2 H2) (hd : ∀ σ' H', Pv xs.length σ' H' → f σ' H') :
    ∃ a', [V.ref a] = [.ref a'] ∧ ((∃ xs, SqL K H a' xs) ∧ LoopOk (Ite K a') g t ⟨f, rt, b', c'⟩ σ H ∨ (∃ xs, SqT K H a' xs) ∧ LoopOk (IteT K a') g t ⟨f, rt, b', c'⟩ σ H) := by
  refine ⟨a, rfl, ?_⟩
  cases b with
  | true =>
    refine .inl ⟨⟨xs, h⟩, l_it (walk_enum (xs := xs)) Pv h0 hG (fun i x σ' H1 H2 hi hp hy => ?_) hd⟩
    obtain ⟨T, u, v, rfl, hT, e, hu, hv⟩ := hy
    cases hu
    subst e
    exact hs i v T σ' _ hi hv hp hT
  | false =>
    refine .inr ⟨⟨xs, h⟩, l_it (walk_enumT (xs := xs)) Pv h0 hG (fun i x σ' H1 H2 hi hp hy => ?_) hd⟩
    obtain ⟨T, u, v, rfl, hT, e, hu, hv⟩ := hy
    cases hu
    subst e
    exact hs i v T σ' _ hi hv hp hT
/-- a, b = (a new pair) -/
theorem w_pair {i j : Nat} {a : Addr} {x y : V} {N : St → Hp → Prop} (h : Sq false K H a [x, y]) (q : N ((σ.set i (some x)).set j (some y)) H) : gTup K 2 (gCons (gName i) (gCons (gName j) gNil)) (.ref a) σ H N :=
  ⟨a, [x, y], rfl, h, rfl, x, [y], rfl, y, [], rfl, rfl, q⟩
end
end L2

namespace L2
open PySem PySem.Spec PyProof.Rows
/-! ### stores into lists, cuts, isinstance, lists of numbers -/
section
variable {K : PySem.W.Frag} {σ : St} {H : Hp} {v x : V} {D : Ends} {t u : TS} {Q : VK} {ta tb : TE}
theorem w_gSub {r : TSet} {N : St → Hp → Prop} (q : ta σ H fun o H1 => tb σ H1 fun i H2 => r o i v H2 fun H3 => N σ H3) : gSub ta tb r v σ H N := q
theorem w_setI {p : Addr} {ns : List Int} {k z : Int} {N : Hp → Prop} (h : H p = some (.lst (ns.map V.int))) (h0 : 0 ≤ k) (h1 : k < ns.length) (q : N (upd H p (.lst ((ns.set k.toNat z).map V.int)))) : rSetL (.ref p) (.int k) (.int z) H N := by
  refine ⟨p, ns.map V.int, k, k.toNat, rfl, rfl, h, ?_, ?_⟩
  · unfold ixN
    rw [if_pos h0, if_pos (by rw [List.length_map]; omega)]
  · rw [← List.map_set]; exact q
theorem w_setL {p : Addr} {xs : List V} {k : Int} {N : Hp → Prop} (h : H p = some (.lst xs)) (h0 : 0 ≤ k) (h1 : k < xs.length) (q : N (upd H p (.lst (xs.set k.toNat v)))) : rSetL (.ref p) (.int k) v H N := by
  refine ⟨p, xs, k, k.toNat, rfl, rfl, h, ?_, q⟩
  unfold ixN
  rw [if_pos h0, if_pos (by omega)]
theorem w_cut {f b' c' : St → Hp → Prop} {rt : VK} (Mid : St → Hp → Prop) (h1 : t ⟨Mid, rt, b', c'⟩ σ H) (h2 : ∀ σ' H', Mid σ' H' → u ⟨f, rt, b', c'⟩ σ' H') : Evl.tCut t u ⟨f, rt, b', c'⟩ σ H := ⟨Mid, h1, h2⟩
theorem w_isi {tn cn : String} {b : Bool} (ht : TyX K H x (.type tn)) (hk : kitB tn cn = some b) (q : Q (.bl b) H) : rIsi K [x, .ty cn] H Q := ⟨x, .ty cn, _, _, b, rfl, .ty cn, ht, kit_ty hk, q⟩
theorem tyx_tup {a : Addr} {xs : List V} (h : SqT K H a xs) : TyX K H (.ref a) (.type "tuple") := by
  rcases h with (h | ⟨o, h⟩) | ⟨o, its, n, h1, h2, _⟩
  · exact .base (.tup h)
  · exact .fTuple h
  · exact .kTuple h1 h2
theorem tyx_lst {a : Addr} {xs : List V} (h : SqL K H a xs) : TyX K H (.ref a) (.type "list") := by
  rcases h with (h | ⟨o, h⟩) | ⟨o, its, n, h1, h2, _⟩
  · exact .base (.lst h)
  · exact .base (.frz h)
  · exact .kList h1 h2
end
theorem last_at_neg {ns : List Int} (h : 0 < ns.length) : ∃ z, z ∈ ns ∧ atI (ns.map V.int) (-1) = some (.int z) := by
  refine ⟨ns[ns.length - 1], List.getElem_mem _, ?_⟩
  unfold atI ixN
  rw [if_neg (by decide), if_pos (by rw [List.length_map]; omega)]
  show (ns.map V.int)[(-1 + (((ns.map V.int).length : Nat) : Int)).toNat]? = _
  rw [List.length_map, show (-1 + ((ns.length : Nat) : Int)).toNat = ns.length - 1 by omega, List.getElem?_map, List.getElem?_eq_getElem (by omega)]
  rfl
theorem sum_nonneg : ∀ {ns : List Int}, (∀ x ∈ ns, (0 : Int) ≤ x) → 0 ≤ ns.sum
  | [], _ => by simp
  | a :: r, h => by
    have h1 := h a (List.mem_cons_self ..)
    have h2 := sum_nonneg (ns := r) fun x hx => h x (List.mem_cons_of_mem _ hx)
    rw [List.sum_cons]; omega
theorem sum_ge_mem : ∀ {ns : List Int} {z : Int}, (∀ x ∈ ns, (0 : Int) ≤ x) → z ∈ ns → z ≤ ns.sum
  | a :: r, z, h, hz => by
    have h1 := h a (List.mem_cons_self ..)
    have h2 := sum_nonneg (ns := r) fun x hx => h x (List.mem_cons_of_mem _ hx)
    rw [List.sum_cons]
    rcases List.mem_cons.mp hz with e | e
    · subst e; omega
    · have := sum_ge_mem (ns := r) (fun x hx => h x (List.mem_cons_of_mem _ hx)) e
      omega
/-- the same data by _law_same: no deeper than n -/
def Sm (K : PySem.W.Frag) (H : Hp) : Nat → V → V → Prop
  | 0, x, y => x = y ∧ (x = .non ∨ (∃ b, x = .bl b) ∨ (∃ i, x = .int i) ∨ ∃ s, x = .str s)
  | n + 1, x, y => (x = y ∧ (x = .non ∨ (∃ b, x = .bl b) ∨ (∃ i, x = .int i) ∨ ∃ s, x = .str s)) ∨
    ∃ (a a' : Addr) (k : Bool) (xs ys : List V), x = .ref a ∧ y = .ref a' ∧ SqT K H a xs ∧ Sq k K H a' ys ∧ xs.length = ys.length ∧ ys.length ≤ 100000 ∧ ∀ (i : Nat) x' y', xs[i]? = some x' → ys[i]? = some y' → Sm K H n x' y'
theorem Sm.int {K : PySem.W.Frag} {H : Hp} {n : Nat} {i : Int} : Sm K H n (.int i) (.int i) := by
  cases n
  · exact ⟨rfl, .inr (.inr (.inl ⟨i, rfl⟩))⟩
  · exact .inl ⟨rfl, .inr (.inr (.inl ⟨i, rfl⟩))⟩
theorem Same.sm {K : PySem.W.Frag} {H H' : Hp} (e : Same H H') : ∀ {n : Nat} {x y : V}, Sm K H n x y → Sm K H' n x y
  | 0, _, _, h => h
  | n + 1, _, _, h => by
    rcases h with h | ⟨a, a', k, xs, ys, h1, h2, h3, h4, h5, hz, h6⟩
    · exact .inl h
    · exact .inr ⟨a, a', k, xs, ys, h1, h2, e.seqT h3, e.sq h4, h5, hz, fun i x' y' hx hy => Same.sm e (h6 i x' y' hx hy)⟩
end L2

namespace L2
open PySem PySem.Spec PyProof.Rows
/-! ### lists of numbers: cut, compared, looked into -/
section
variable {K : PySem.W.Frag} {H : Hp} {Q : VK}
theorem cutV_to (ns : List Int) {j : Int} (hj : 0 ≤ j) : cutV (ns.map V.int) none (some j) = (ns.take j.toNat).map V.int := by
  have e : j = ((j.toNat : Nat) : Int) := (Int.toNat_of_nonneg hj).symm
  unfold cutV
  rw [HT.sIx_none, e, HT.sIx_nat, List.drop_zero, Nat.sub_zero, Int.toNat_natCast, List.map_take, List.length_map]
  rcases Nat.le_total j.toNat ns.length with h | h
  · rw [Nat.min_eq_left h]
  · rw [Nat.min_eq_right h, List.take_of_length_le (by rw [List.length_map]; exact Nat.le_refl _), List.take_of_length_le (by rw [List.length_map]; exact h)]
theorem w_slTo {a : Addr} {ns : List Int} {j : Int} (h : Sq true K H a (ns.map V.int)) (hj : 0 ≤ j) (q : ∀ p, H p = none → Q (.ref p) (upd H p (.lst ((ns.take j.toNat).map V.int)))) : rSlG K (.ref a) none (some j) H Q :=
  .inl ⟨a, ns.map V.int, rfl, h, fun p hp => by rw [cutV_to ns hj]; exact q p hp⟩
theorem dpAll_ints {ns : List Int} : DpAll K H (ns.map V.int) (ns.map PyData.int) := by
  induction ns with
  | nil => exact .nil
  | cons a r ih => exact .cons (.int a) ih
theorem dp_ints {b : Bool} {a : Addr} {ns : List Int} (h : Sq b K H a (ns.map V.int)) : Dp K H (.ref a) (if b then .list (ns.map PyData.int) else .tuple (ns.map PyData.int)) := by
  cases b
  · exact .tup h dpAll_ints
  · exact .lst h dpAll_ints
theorem canLay_ints (ns : List Int) : PyData.canLayAll0 (ns.map PyData.int) = true := by
  induction ns with
  | nil => rfl
  | cons a r ih => simp only [List.map_cons, PyData.canLayAll0, PyData.canLay0, ih, Bool.and_self]
theorem depth_ints (ns : List Int) : PyData.depthAll (ns.map PyData.int) = 0 := by
  induction ns with
  | nil => rfl
  | cons a r ih => simp only [List.map_cons, PyData.depthAll, PyData.depth, ih, Nat.max_self]
theorem shaped_ints (ns : List Int) : SeqAt.shaped (.list (ns.map PyData.int)) = true := by
  simp [SeqAt.shaped, PyData.canLay0, PyData.depth, canLay_ints, depth_ints]
theorem shaped_intsT (ns : List Int) : SeqAt.shaped (.tuple (ns.map PyData.int)) = true := by
  simp [SeqAt.shaped, PyData.canLay0, PyData.depth, canLay_ints, depth_ints]
theorem eqvAll_ints (ns : List Int) : PyData.eqvAll (ns.map PyData.int) (ns.map PyData.int) = true := by
  induction ns with
  | nil => rfl
  | cons a r ih => simp only [List.map_cons, PyData.eqvAll, PyData.eqv, ih, beq_self_eq_true, Bool.and_self]
theorem w_neInts {a a' : Addr} {ns : List Int} (h : Sq true K H a (ns.map V.int)) (h' : Sq true K H a' (ns.map V.int)) (q : Q (.bl false) H) : rNeG K (.ref a) (.ref a') H Q :=
  w_neD (dp_ints h) (dp_ints h') (shaped_ints ns) (shaped_ints ns) (by
    have e : PyData.eqv (.list (ns.map PyData.int)) (.list (ns.map PyData.int)) = true := by simp only [PyData.eqv, eqvAll_ints]
    show Q (.bl (!PyData.eqv (.list (ns.map PyData.int)) (.list (ns.map PyData.int)))) H
    rw [e]; exact q)
theorem flat_ints (ns : List Int) : (ns.map V.int).all flatV = true := by
  induction ns with
  | nil => rfl
  | cons a r ih => simp only [List.map_cons, List.all_cons, ih, Bool.and_true]; rfl
theorem eqV_int (i j : Int) : eqV (.int i) (.int j) = (i == j) := rfl
theorem w_maxI {a : Addr} {ns : List Int} (h : Sq true K H a (ns.map V.int)) (hp : 0 < ns.length) (q : ∀ m, m ∈ ns → (∀ y, y ∈ ns → y ≤ m) → Q (.int m) H) : rMax K [.ref a] H Q := ⟨a, ns, rfl, h, hp, q⟩
theorem w_indexI {a : Addr} {ns : List Int} {z : Int} {j : Nat} (h : Sq true K H a (ns.map V.int)) (hj : j < ns.length) (e : nth ns (j : Nat) = z) (hno : ∀ m : Nat, m < j → nth ns (m : Nat) ≠ z) (q : Q (.int (j : Nat)) H) : rIndex K (.ref a) [.int z] H Q := by
  have hg : ∀ (m : Nat), m < ns.length → (ns.map V.int)[m]? = some (.int (nth ns (m : Nat))) := fun m hm => by
    rw [List.getElem?_map, List.getElem?_eq_getElem hm, nth_nat, List.getD_eq_getElem?_getD, List.getElem?_eq_getElem hm]
    rfl
  refine ⟨a, ns.map V.int, .int z, j, .int z, rfl, rfl, h, rfl, flat_ints ns, by rw [hg j hj, e], by rw [eqV_int]; exact beq_self_eq_true z, fun m z' hm hz => ?_, q⟩
  rw [hg m (by omega)] at hz
  cases hz
  rw [eqV_int]
  exact beq_eq_false_iff_ne.mpr (hno m hm)
end
end L2

namespace L2
open PySem PySem.Spec PyProof.Rows
/-! ### zip of two, each a list (true) or a tuple (false) -/
def ItOf (b : Bool) (h : Heap) (it a : Addr) (i : Nat) : Prop := match b with
  | true => h.IsListIter it a i
  | false => h.IsTupleIter it a i
def SrcOf (b : Bool) (h : Heap) (a : Addr) (items : Array Value) : Prop := match b with
  | true => h.IsList a items
  | false => h.IsTuple a items
theorem ItOf.at {b : Bool} {h h' : Heap} {it a : Addr} {i : Nat} (x : ItOf b h it a i) (k : ∀ o, h.get? it = some o → h'.get? it = some o) : ItOf b h' it a i := by
  cases b with
  | true => exact Heap.IsListIter.at (show h.IsListIter it a i from x) k
  | false => exact Heap.IsTupleIter.at (show h.IsTupleIter it a i from x) k
theorem ItOf.obj {b : Bool} {h : Heap} {it a : Addr} {i : Nat} (x : ItOf b h it a i) : ∃ o, h.get? it = some o ∧ ∀ v, o.data ≠ .cell v := by
  cases b with
  | true => obtain ⟨o, e, _, d⟩ := (show h.IsListIter it a i from x); exact ⟨o, e, fun v q => by rw [d] at q; cases q⟩
  | false => obtain ⟨o, e, _, d⟩ := (show h.IsTupleIter it a i from x); exact ⟨o, e, fun v q => by rw [d] at q; cases q⟩
theorem SrcOf.ne {b : Bool} {h : Heap} {a it : Addr} {items : Array Value} {b' : Bool} {a' : Addr} {i : Nat} (p : SrcOf b h a items) (q : ItOf b' h it a' i) : a ≠ it := by
  intro e
  subst e
  have hp : ∃ o, h.get? a = some o ∧ (o.cls = .type "list" ∨ o.cls = .type "tuple") := by
    cases b with
    | true => obtain ⟨o, ho, hc, _⟩ := (show h.IsList a items from p); exact ⟨o, ho, .inl hc⟩
    | false => obtain ⟨o, ho, hc, _⟩ := (show h.IsTuple a items from p); exact ⟨o, ho, .inr hc⟩
  have hq : ∃ o, h.get? a = some o ∧ (o.cls = .type "list_iterator" ∨ o.cls = .type "tuple_iterator") := by
    cases b' with
    | true => obtain ⟨o, ho, hc, _⟩ := (show h.IsListIter a a' i from q); exact ⟨o, ho, .inl hc⟩
    | false => obtain ⟨o, ho, hc, _⟩ := (show h.IsTupleIter a a' i from q); exact ⟨o, ho, .inr hc⟩
  obtain ⟨o, ho, hc⟩ := hp
  obtain ⟨o', ho', hc'⟩ := hq
  rw [ho] at ho'
  cases ho'
  rcases hc with hc | hc <;> rcases hc' with hc' | hc' <;> (rw [hc] at hc'; exact absurd hc' (by decide))
theorem Inv.src {X : Cx} {pins : List (Addr × Obj)} {σ : St} {H : Hp} {s : Shared} {b : Bool} {a : Addr} {xs : List V} (I : Inv X pins σ H s) (h : Sq b X.K H a xs) : ∃ its : List Value, Vals xs its ∧ SrcOf b s.heap a its.toArray ∧ a < s.heap.objs.size := by
  cases b with
  | true =>
    obtain ⟨its, rv, p, _⟩ := I.list h
    exact ⟨its, rv, p.isList, p.lt⟩
  | false =>
    obtain ⟨its, rv, p, _⟩ := I.tuple h
    obtain ⟨o, ho, _⟩ := id p
    exact ⟨its, rv, p, Heap.lt_size ho⟩
theorem Inv.sq_inj {X : Cx} {pins : List (Addr × Obj)} {σ : St} {H : Hp} {s : Shared} {b : Bool} {a : Addr} {xs ys : List V} (I : Inv X pins σ H s) (h : Sq b X.K H a xs) (h' : Sq b X.K H a ys) : xs = ys := by
  cases b with
  | true => exact I.list_inj h h'
  | false => exact I.tuple_inj h h'
theorem drawsOf {prog : Program} {w : World} {A : Around} (b : Bool) (hh : A.handled = none) (it a : Addr) (hne : a ≠ it) (items : Array Value) :
    Draws prog w A it [it, a] items.size (fun i v => items[i]? = some v) (fun i h => ItOf b h it a i ∧ SrcOf b h a items) := by
  cases b with
  | true => exact Draws.list hh it a hne items
  | false => exact Draws.tuple hh it a hne items
def ItzS (b1 b2 : Bool) (K : PySem.W.Frag) (a b : Addr) : It :=
  ⟨fun i H => ∃ (xs ys : List V) (x y : V), Sq b1 K H a xs ∧ Sq b2 K H b ys ∧ xs[i]? = some x ∧ ys[i]? = some y,
    fun i H v H' => ∃ T x y, v = .ref T ∧ H T = none ∧ H' = upd H T (.tup [x, y]) ∧ (∀ xs, Sq b1 K H a xs → xs[i]? = some x) ∧ ∀ ys, Sq b2 K H b ys → ys[i]? = some y,
    fun i H => ∃ xs ys : List V, Sq b1 K H a xs ∧ Sq b2 K H b ys ∧ i ≤ xs.length ∧ i ≤ ys.length ∧ (xs.length ≤ i ∨ ys.length ≤ i)⟩
theorem turn_zipS {P : Program} {w : World} {K : PySem.W.Frag} {elts : List Expr} {kk : Nat} {tpos : Pos} (b1 b2 : Bool) {a b z TI TO i1 i2 : Addr} (D : ZipSep2 z TI TO i1 i2 [i1, a] [i2, b]) :
    Turn P w K (.Tuple elts kk tpos) (ItzS b1 b2 K a b) [z, TI, TO, i1, i2] z (fun i h => IsZip h z TI TO .none ∧ IsPair h TI (.ref i1) (.ref i2) ∧ (∃ x y, IsPair h TO x y) ∧ ItOf b1 h i1 a i ∧ ItOf b2 h i2 b i) where
  mem := by simp
  obj := fun i h st c hc => by
    obtain ⟨hz, hTI, ⟨x, y, hTO⟩, h1, h2⟩ := st
    have e' : c = z ∨ c = TI ∨ c = TO ∨ c = i1 ∨ c = i2 := by simpa using hc
    rcases e' with q | q | q | q | q
    · rw [q]; exact ⟨_, hz, fun v q => nomatch q⟩
    · rw [q]; exact ⟨_, hTI, fun v q => nomatch q⟩
    · rw [q]; exact ⟨_, hTO, fun v q => nomatch q⟩
    · rw [q]; exact h1.obj
    · rw [q]; exact h2.obj
  keep := fun i h h' st k => by
    obtain ⟨hz, hTI, ⟨x, y, hTO⟩, h1, h2⟩ := st
    exact ⟨k z (by simp) _ hz, k TI (by simp) _ hTI, ⟨x, y, k TO (by simp) _ hTO⟩, h1.at fun o q => k i1 (by simp) o q, h2.at fun o q => k i2 (by simp) o q⟩
  item := by
    intro X hP hw hK hc i pins s σ H E I hf st hg
    subst hP hw hK
    obtain ⟨hz, hTI, ⟨x0, y0, hTO⟩, h1, h2⟩ := st
    obtain ⟨xs, ys, x, y, hqx, hqy, hx, hy⟩ := hg
    obtain ⟨its, rv, p, la⟩ := I.src hqx
    obtain ⟨its2, rv2, p2, lb⟩ := I.src hqy
    obtain ⟨u, hu, ru⟩ := rv.get hx
    obtain ⟨u2, hu2, ru2⟩ := rv2.get hy
    have hzl : z < s.heap.objs.size := Heap.lt_size hz
    have hl1 : i < its.toArray.size := by simpa using (List.getElem?_eq_some_iff.mp hu).1
    have hl2 : i < its2.toArray.size := by simpa using (List.getElem?_eq_some_iff.mp hu2).1
    have hin : X.A.in1.handled = none := I.ok.hd hc
    refine wpAny_pyNext_zipD2_item D (drawsOf b1 hin i1 a (p.ne h1) its.toArray) (drawsOf b2 hin i2 b (p2.ne h2) its2.toArray) hz hTI hTO ⟨h1, p⟩ ⟨h2, p2⟩ hl1 hl2 fun w1 w2 h' tk e1 e2 z' TO' st1 st2 hT hsz hk => ?_
    have ew1 : w1 = u := by
      have g1 : its.toArray[i]? = some w1 := e1
      have g2 : its.toArray[i]? = some u := by simpa using hu
      rw [g1] at g2
      exact Option.some.inj g2
    have ew2 : w2 = u2 := by
      have g1 : its2.toArray[i]? = some w2 := e2
      have g2 : its2.toArray[i]? = some u2 := by simpa using hu2
      rw [g1] at g2
      exact Option.some.inj g2
    subst ew1 ew2
    refine ⟨_, rfl, wpAny_letOwnedTupleGo_zip (s := { s with heap := h', toks := tk }) z' fun h'' z'' sb => ?_⟩
    have hT2 : h''.get? s.heap.objs.size = some { cls := .type "tuple", data := .seq #[w1, w2] } := (sb.2 _ (Nat.ne_of_gt hzl)).trans hT
    have new : ObjOk X.prog X.w (upd H s.heap.objs.size (.tup [x, y])) h'' s.heap.objs.size (.tup [x, y]) :=
      ⟨by show 2 ≤ sizeLine; decide, [w1, w2], .cons ru (.cons ru2 .nil), ⟨_, hT2, rfl, _, rfl⟩⟩
    have I1 : Inv X pins σ (upd H s.heap.objs.size (.tup [x, y])) { s with heap := h'', toks := tk } :=
      I.turnedNew (t' := tk) (ch := [z, TI, TO, i1, i2]) (fun c o hb q => (sb.2 c (fun q' => hb (by simp [q']))).trans (hk c o (fun q' => hb (by simp [q'])) (fun q' => hb (by simp [q'])) (fun q' => hb (by simp [q'])) (fun q' => hb (by simp [q'])) q)) hf (Nat.le_refl _) new
    refine ⟨.ref s.heap.objs.size, _, I1, rfl, ⟨_, x, y, rfl, I.hok.fresh (Nat.le_refl _), rfl, fun l hl => by rw [I.sq_inj hl hqx]; exact hx, fun l hl => by rw [I.sq_inj hl hqy]; exact hy⟩, ⟨z'', ?_, ⟨w1, w2, ?_⟩, ?_, ?_⟩, fun c hcm => ?_⟩
    · exact (sb.2 _ D.TIz).trans (hk _ _ D.TIz D.TITO D.TIi1 D.TIi2 hTI)
    · exact (sb.2 _ D.TOz).trans TO'
    · exact st1.1.at fun o q => (sb.2 _ (Ne.symm D.zi1)).trans q
    · exact st2.1.at fun o q => (sb.2 _ (Ne.symm D.zi2)).trans q
    · have hlt : c < s.heap.objs.size := by
        have e' : c = z ∨ c = TI ∨ c = TO ∨ c = i1 ∨ c = i2 := by simpa using hcm
        rcases e' with q | q | q | q | q
        · rw [q]; exact hzl
        · rw [q]; exact Heap.lt_size hTI
        · rw [q]; exact Heap.lt_size hTO
        · rw [q]; obtain ⟨_, e1, _⟩ := h1.obj; exact Heap.lt_size e1
        · rw [q]; obtain ⟨_, e2, _⟩ := h2.obj; exact Heap.lt_size e2
      rw [upd_ne (Nat.ne_of_lt hlt)]
      exact (hf c hcm).1
  done := by
    intro X hP hw hK hc i pins s σ H E I hf st hg
    subst hP hw hK
    obtain ⟨hz, hTI, ⟨x0, y0, hTO⟩, h1, h2⟩ := st
    obtain ⟨xs, ys, hqx, hqy, le1, le2, hend⟩ := hg
    obtain ⟨its, rv, p, _⟩ := I.src hqx
    obtain ⟨its2, rv2, p2, _⟩ := I.src hqy
    have l1 := rv.length
    have l2 := rv2.length
    have hin : X.A.in1.handled = none := I.ok.hd hc
    refine wpAny_pyNext_zipD2_end D (drawsOf b1 hin i1 a (p.ne h1) its.toArray) (drawsOf b2 hin i2 b (p2.ne h2) its2.toArray) hz hTI hTO ⟨h1, p⟩ ⟨h2, p2⟩ (by simp; omega) (by simp; omega) (by simp; omega) fun h' tk hk => ⟨rfl, ?_⟩
    exact I.turnedL (t' := tk) (ch := [z, TI, TO, i1, i2]) (fun c o hb q => hk c o (fun q' => hb (by simp [q'])) (fun q' => hb (by simp [q'])) (fun q' => hb (by simp [q'])) (fun q' => hb (by simp [q'])) q) hf
  self := fun A i s Q E st h => wpAny_pyIter_zip st.1 h
theorem begins_src (b : Bool) (a : Addr) (items : Array Value) : ∃ o, Begins (.ref a) o (fun h => SrcOf b h a items) ∧ ∀ (h : Heap) (it : Addr), h.get? it = some o → ItOf b h it a 0 := by
  cases b with
  | true => exact ⟨_, begins_list a items, fun h it e => ⟨_, e, rfl, rfl⟩⟩
  | false => exact ⟨_, begins_tuple a items, fun h it e => ⟨_, e, rfl, rfl⟩⟩
def iZipS (K : PySem.W.Frag) (ta : TA) : TI := fun σ H R => ta σ H fun vs H1 => ∃ a b, vs = [.ref a, .ref b] ∧ ∃ b1 b2 xs ys, Sq b1 K H1 a xs ∧ Sq b2 K H1 b ys ∧ R (ItzS b1 b2 K a b) H1
theorem pi_zipS {X : Cx} {e e2 : Expr} {ta : TA} {p pos tpos : Pos} {elts : List Expr} {kk : Nat} (hg : Gl X "zip") (hm : X.mg "zip" = none) (ha : PA X [e, e2] ta)
    (hs : starEach [e, e2] X.env = (false, eval e X.env) :: starEach [e2] X.env := by rfl) (hpl : (backTo pos (starEach [e2] X.env)).any (·.1) = false := by rfl) :
    PI X (.Tuple elts kk tpos) (.Call (.Name "zip" p) [e, e2] [] pos) (iZipS X.K ta) := by
  refine ⟨fun pins s σ H R I h => ?_⟩
  refine Call_ (ld_blt I hg hm PyProof.Rows.boot_zip (PyProof.Rows.callWith_type1 (thn (ha.run pos pins s σ H _ I h) fun us s1 ⟨vs, H1, I1, r1, q1⟩ => ?_) hs hpl))
  obtain ⟨a, b, ex, b1, b2, xs, ys, hqx, hqy, q⟩ := q1
  subst ex
  cases r1 with
  | cons r rr =>
    cases rr with
    | cons r' rr =>
      cases rr
      cases r
      cases r'
      obtain ⟨its, rv, p1, la⟩ := I1.src hqx
      obtain ⟨its2, rv2, p2, lb⟩ := I1.src hqy
      obtain ⟨o1, B1, k1⟩ := begins_src b1 a its.toArray
      obtain ⟨o2, B2, k2⟩ := begins_src b2 b its2.toArray
      refine zip_begins2 B1 B2 p1 p2 fun h' hz hTI hTO g1 g2 hsz hk => wpAny_pyIter_zip hz ?_
      have I2 : Inv X pins σ H1 { s1 with heap := h' } := I1.kept (t' := s1.toks) hk
      refine ⟨s1.heap.objs.size + 4, [s1.heap.objs.size + 4, s1.heap.objs.size + 2, s1.heap.objs.size + 3, s1.heap.objs.size, s1.heap.objs.size + 1], _, _, H1, rfl, I2,
        turn_zipS b1 b2 (zip_sep2 (N := s1.heap.objs.size) (fp1 := [a]) (fp2 := [b]) (fun c hc => by rw [List.mem_singleton.mp hc]; exact la) (fun c hc => by rw [List.mem_singleton.mp hc]; exact lb)), ⟨hz, hTI, ⟨_, _, hTO⟩, k1 _ _ g1, k2 _ _ g2⟩, fun c hcm => ?_, q⟩
      have e' : c = s1.heap.objs.size + 4 ∨ c = s1.heap.objs.size + 2 ∨ c = s1.heap.objs.size + 3 ∨ c = s1.heap.objs.size ∨ c = s1.heap.objs.size + 1 := by simpa using hcm
      have hle : s1.heap.objs.size ≤ c := by
        rcases e' with z | z | z | z | z
        · rw [z]; exact Nat.le_add_right _ _
        · rw [z]; exact Nat.le_add_right _ _
        · rw [z]; exact Nat.le_add_right _ _
        · rw [z]; exact Nat.le_refl _
        · rw [z]; exact Nat.le_add_right _ _
      exact I1.fpOk hle (I1.hok.fresh hle)
theorem walk_zipS {b1 b2 : Bool} {K : PySem.W.Frag} {a b : Addr} {xs ys : List V} (hn : xs.length = ys.length) : Walk (ItzS b1 b2 K a b) xs.length (fun H => Sq b1 K H a xs ∧ Sq b2 K H b ys) (YPair (fun i => xs[i]?) (fun i => ys[i]?)) := by
  refine ⟨fun i _ hi q => ?_, fun _ q => ⟨xs, ys, q.1, q.2, Nat.le_refl _, by omega, .inl (Nat.le_refl _)⟩, fun i H v H' _ q y => ?_⟩
  · exact ⟨xs, ys, xs[i], ys[i], q.1, q.2, by simp [hi], by simp [show i < ys.length by omega]⟩
  · obtain ⟨T, x, z, h1, h2, h3, h4, h5⟩ := y
    exact ⟨T, x, z, h1, h2, h3, h4 xs q.1, h5 ys q.2⟩
section
variable {K : PySem.W.Frag} {σ : St} {H : Hp} {t : TS} {D : Ends} {g : TG} {f bk ct : St → Hp → Prop} {rt : VK}
theorem w_iZipS {ta : TA} {R : It → Hp → Prop} (q : ta σ H fun vs H1 => ∃ a b, vs = [.ref a, .ref b] ∧ ∃ b1 b2 xs ys, Sq b1 K H1 a xs ∧ Sq b2 K H1 b ys ∧ R (ItzS b1 b2 K a b) H1) : iZipS K ta σ H R := q
theorem l_zip {b1 b2 : Bool} {a b : Addr} (xs ys : List V) (hn : xs.length = ys.length) (Pv : Nat → St → Hp → Prop) (hx : Sq b1 K H a xs) (hy : Sq b2 K H b ys) (h0 : Pv 0 σ H) (hG : ∀ i σ H, i ≤ xs.length → Pv i σ H → Sq b1 K H a xs ∧ Sq b2 K H b ys)
    (hs : ∀ (i : Nat) x y (T : Addr) σ' H', i < xs.length → xs[i]? = some x → ys[i]? = some y → Pv i σ' H' → H' T = none → g (.ref T) σ' (upd H' T (.tup [x, y])) fun σ2 H2 => t ⟨Pv (i + 1), rt, f, Pv (i + 1)⟩ σ2 H2) (hd : ∀ σ' H', Pv xs.length σ' H' → f σ' H') :
    ∃ a' b', [V.ref a, V.ref b] = [.ref a', .ref b'] ∧ ∃ b1 b2 xs ys, Sq b1 K H a' xs ∧ Sq b2 K H b' ys ∧ LoopOk (ItzS b1 b2 K a' b') g t ⟨f, rt, bk, ct⟩ σ H := by
  refine ⟨a, b, rfl, b1, b2, xs, ys, hx, hy, l_it (walk_zipS hn) Pv h0 hG (fun i x σ' H1 H2 hi hp hy => ?_) hd⟩
  obtain ⟨T, u, v, rfl, hT, e, hu, hv⟩ := hy
  subst e
  exact hs i u v T σ' _ hi hu hv hp hT
end

/-! ### list comprehensions -/
/-- what a comprehension asks of its walk J -/
def CompOk (J : It) (g : TG) (tt : TT) (te : TE) (vs : List Nat) (σ : St) (H1 : Hp) (Q : VK) : Prop := ∀ D, H1 D = none → ∃ W : Nat → Nat → Hp → Prop, (∃ m, W 0 m (upd H1 D (.lst []))) ∧ ∀ i m H, W i m H →
  (J.stop i H ∧ Q (.ref D) H) ∨ (J.go i H ∧ ∃ Nx : Hp → Prop, (∀ H', Nx H' → ∃ m', m' < m ∧ W (i + 1) m' H') ∧ ∀ x H', J.yld i H x H' → g x (wipe σ vs) H' fun σ2 H2 => wipe σ2 vs = wipe σ vs ∧ tt σ2 H2 fun b H3 =>
    if b = true then te σ2 H3 fun y H4 => ∃ acc, H4 D = some (.lst acc) ∧ acc.length < sizeLine ∧ Nx (upd H4 D (.lst (acc ++ [y]))) else Nx H3)
/-- the heap without what stands at D -/
def hide (D : Addr) (H : Hp) : Hp := fun b => if b = D then none else H b
theorem hide_at (D : Addr) (H : Hp) : hide D H D = none := if_pos rfl
theorem hide_ne {D b : Addr} {H : Hp} (h : b ≠ D) : hide D H b = H b := if_neg h
theorem hide_same (D : Addr) (H : Hp) : Same (hide D H) H := fun b o e => by
  by_cases h : b = D
  · subst h; rw [hide_at] at e; cases e
  · rw [hide_ne h] at e; exact e
theorem same_hide {D : Addr} {H H' : Hp} (e : Same H H') (h : H D = none) : Same H (hide D H') := fun b o q => by
  rw [hide_ne (ne_of_none q h)]
  exact e b o q
theorem hide_upd (D : Addr) (H : Hp) (o : HO) : hide D (upd H D o) = hide D H := by
  funext b
  by_cases h : b = D
  · subst h; rw [hide_at, hide_at]
  · rw [hide_ne h, hide_ne h, upd_ne h]
theorem hide_mono {D : Addr} {H H' : Hp} (e : Same H H') : Same (hide D H) (hide D H') := fun b o q => by
  by_cases h : b = D
  · subst h; rw [hide_at] at q; cases q
  · rw [hide_ne h] at q ⊢; exact e b o q
/-- no tuple, nothing frozen -/
def NTup : Option HO → Prop
  | some (.tup _) => False
  | some (.frz _ _) => False
  | _ => True
theorem NTup.lst {H : Hp} {D : Addr} {acc : List V} (h : H D = some (.lst acc)) : NTup (H D) := by rw [h]; trivial
theorem NTup.ins {H : Hp} {D C dx : Addr} {fs : List (Str × V)} (h : H D = some (.ins C dx fs)) : NTup (H D) := by rw [h]; trivial
theorem sq_hide {K : PySem.W.Frag} {D p : Addr} {H : Hp} {xs : List V} (hD : NTup (H D)) (h : Sq false K H p xs) : Sq false K (hide D H) p xs := by
  have h : SqT K H p xs := h
  rcases h with (h | ⟨o, h⟩) | h
  · exact .inl (.inl (by rw [hide_ne (fun e => by rw [← e, h] at hD; exact hD)]; exact h))
  · exact .inl (.inr ⟨o, by rw [hide_ne (fun e => by rw [← e, h] at hD; exact hD)]; exact h⟩)
  · exact .inr h
section
variable {K : PySem.W.Frag} {σ : St} {H : Hp} {tt : TT} {te : TE} {g : TG} {vs : List Nat} {Q : VK}
theorem w_lc {wi : TI} (q : wi σ H fun J H1 => CompOk J g tt te vs σ H1 Q) : tLc wi g tt te vs σ H Q := q
/-- every turn gives one item: R of the turn, the item and the heap without the new list -/
theorem l_comp {J : It} {n : Nat} {G : Hp → Prop} {Y : Nat → Hp → V → Hp → Prop} (w : Walk J n G Y) (hz : n < sizeLine) (R : Nat → V → Hp → Prop) (hR : ∀ i y H1 H2, Same H1 H2 → R i y H1 → R i y H2) (hG : ∀ H', Same H H' → G H')
    (hY : ∀ i x H1 H2, i < n → Y i H1 x H2 → Same H1 H2)
    (hs : ∀ i x H1 H2 D acc (N : VK), i < n → Same H H1 → H D = none → H1 D = some (.lst acc) → Y i H1 x H2 → Same H1 H2 → (∀ y H4, Same H2 H4 → R i y (hide D H4) → N y H4) → g x (wipe σ vs) H2 fun σ2 H3 => wipe σ2 vs = wipe σ vs ∧ te σ2 H3 N)
    (k : ∀ D H' ys, H D = none → Same H H' → H' D = some (.lst ys) → ys.length = n → (∀ (i : Nat) y, ys[i]? = some y → R i y (hide D H')) → Q (.ref D) H') : CompOk J g tYes te vs σ H Q := by
  intro D hD
  refine lc_it w (fun i H' => ∃ ys, H' D = some (.lst ys) ∧ ys.length = i ∧ Same H H' ∧ ∀ (j : Nat) y, ys[j]? = some y → R j y (hide D H')) ?_ (fun i H' _ ⟨ys, _, _, sm, _⟩ => hG H' sm) ?_ ?_
  · exact ⟨[], upd_same, rfl, Same.new hD, fun j y e => by simp at e⟩
  · rintro i x H1 H2 hi ⟨ys, e1, e2, sm, hr⟩ hy
    have s12 := hY i x H1 H2 hi hy
    refine hs i x H1 H2 D ys _ hi sm hD e1 hy s12 fun y H4 s24 r4 => ?_
    have e4 : H4 D = some (.lst ys) := s24 _ _ (s12 _ _ e1)
    refine ⟨ys, e4, by omega, ys ++ [y], upd_same, by rw [List.length_append, e2]; rfl, Same.mut ((sm.trans s12).trans s24) hD, fun j z ez => ?_⟩
    rw [hide_upd]
    by_cases hj : j < ys.length
    · rw [List.getElem?_append_left hj] at ez
      exact hR _ _ _ _ (hide_mono (s12.trans s24)) (hr j z ez)
    · have hlen := (List.getElem?_eq_some_iff.mp ez).1
      rw [List.length_append] at hlen
      have ej : j = ys.length := by
        have : j < ys.length + 1 := hlen
        omega
      subst ej
      rw [List.getElem?_append_right (Nat.le_refl _), Nat.sub_self] at ez
      have ey : y = z := Option.some.inj ez
      subst ey
      rw [e2]
      exact r4
  · rintro H' ⟨ys, e1, e2, sm, hr⟩
    exact k D H' ys hD sm e1 e2 hr
/-- over a list or a tuple -/
theorem l_compS {b : Bool} {a : Addr} {j : Nat} (xs : List V) (hx : Sq b K H a xs) (hz : xs.length < sizeLine) (R : Nat → V → Hp → Prop) (hR : ∀ i y H1 H2, Same H1 H2 → R i y H1 → R i y H2)
    (hw : ∀ x : V, wipe ((wipe σ vs).set j (some x)) vs = wipe σ vs)
    (hs : ∀ (i : Nat) x H1 D acc (N : VK), i < xs.length → xs[i]? = some x → Same H H1 → H D = none → H1 D = some (.lst acc) → (∀ y H4, Same H1 H4 → R i y (hide D H4) → N y H4) → te ((wipe σ vs).set j (some x)) H1 N)
    (k : ∀ D H' ys, H D = none → Same H H' → H' D = some (.lst ys) → ys.length = xs.length → (∀ (i : Nat) y, ys[i]? = some y → R i y (hide D H')) → Q (.ref D) H') :
    ∃ a', V.ref a = .ref a' ∧ ((∃ xs, SqL K H a' xs) ∧ CompOk (Itl K a') (gName j) tYes te vs σ H Q ∨ (∃ xs, SqT K H a' xs) ∧ CompOk (Itt K a') (gName j) tYes te vs σ H Q) := by
  refine ⟨a, rfl, ?_⟩
  cases b with
  | true =>
    refine .inl ⟨⟨xs, hx⟩, l_comp (walk_list (xs := xs)) hz R hR (fun H' sm => sm.sq (b := true) hx) (fun i x H1 H2 hi hy => by rw [hy.1]; exact Same.refl _) (fun i x H1 H2 D acc N hi sm hD e1 hy s12 hN => ?_) k⟩
    obtain ⟨e, ex⟩ := hy
    subst e
    exact ⟨hw x, hs i x _ D acc N hi ex sm hD e1 hN⟩
  | false =>
    refine .inr ⟨⟨xs, hx⟩, l_comp (walk_tup (xs := xs)) hz R hR (fun H' sm => sm.sq (b := false) hx) (fun i x H1 H2 hi hy => by rw [hy.1]; exact Same.refl _) (fun i x H1 H2 D acc N hi sm hD e1 hy s12 hN => ?_) k⟩
    obtain ⟨e, ex⟩ := hy
    subst e
    exact ⟨hw x, hs i x _ D acc N hi ex sm hD e1 hN⟩
/-- over range(n) -/
theorem l_compR {n : Int} {j : Nat} (h1 : -(2 ^ 62) ≤ n) (h2 : n < 16000000) (R : Nat → V → Hp → Prop) (hR : ∀ i y H1 H2, Same H1 H2 → R i y H1 → R i y H2)
    (hw : ∀ x : V, wipe ((wipe σ vs).set j (some x)) vs = wipe σ vs)
    (hs : ∀ (i : Nat) H1 D acc (N : VK), (i : Int) < n → Same H H1 → H D = none → H1 D = some (.lst acc) → (∀ y H4, Same H1 H4 → R i y (hide D H4) → N y H4) → te ((wipe σ vs).set j (some (.int (i : Int)))) H1 N)
    (k : ∀ D H' ys, H D = none → Same H H' → H' D = some (.lst ys) → ys.length = n.toNat → (∀ (i : Nat) y, ys[i]? = some y → R i y (hide D H')) → Q (.ref D) H') :
    ∃ j' : Int, [V.int n] = [.int j'] ∧ -(2 ^ 62) ≤ j' ∧ j' < 2 ^ 62 ∧ CompOk (Itr 0 j'.toNat) (gName j) tYes te vs σ H Q := by
  refine ⟨n, rfl, h1, by omega, l_comp (walk_range (lo := 0) (n := n.toNat)) (by rw [sizeLine_eq]; omega) R hR (fun _ _ => trivial) (fun i x H1 H2 hi hy => by rw [hy.1]; exact Same.refl _) (fun i x H1 H2 D acc N hi sm hD e1 hy s12 hN => ?_) k⟩
  obtain ⟨e, ex⟩ := hy
  subst e ex
  show wipe ((wipe σ vs).set j (some (.int (0 + (i : Int))))) vs = wipe σ vs ∧ te ((wipe σ vs).set j (some (.int (0 + (i : Int))))) _ N
  rw [Int.zero_add]
  exact ⟨hw _, hs i _ D acc N (by omega) sm hD e1 hN⟩
/-- over zip of two -/
theorem l_compZ {b1 b2 : Bool} {a b : Addr} {i1 i2 nn : Nat} (xs ys : List V) (hn : xs.length = ys.length) (hx : Sq b1 K H a xs) (hy : Sq b2 K H b ys) (hz : xs.length < sizeLine) (R : Nat → V → Hp → Prop) (hR : ∀ i y H1 H2, Same H1 H2 → R i y H1 → R i y H2) (hnn : nn = 2)
    (hw : ∀ x y : V, wipe (((wipe σ vs).set i1 (some x)).set i2 (some y)) vs = wipe σ vs)
    (hs : ∀ (i : Nat) x y H1 D acc (N : VK), i < xs.length → xs[i]? = some x → ys[i]? = some y → Same H H1 → H D = none → H1 D = some (.lst acc) → (∀ y H4, Same H1 H4 → R i y (hide D H4) → N y H4) → te (((wipe σ vs).set i1 (some x)).set i2 (some y)) H1 N)
    (k : ∀ D H' ys, H D = none → Same H H' → H' D = some (.lst ys) → ys.length = xs.length → (∀ (i : Nat) y, ys[i]? = some y → R i y (hide D H')) → Q (.ref D) H') :
    ∃ a' b', [V.ref a, V.ref b] = [.ref a', .ref b'] ∧ ∃ b1 b2 xs ys, Sq b1 K H a' xs ∧ Sq b2 K H b' ys ∧ CompOk (ItzS b1 b2 K a' b') (gTup K nn (gCons (gName i1) (gCons (gName i2) gNil))) tYes te vs σ H Q := by
  subst hnn
  refine ⟨a, b, rfl, b1, b2, xs, ys, hx, hy, l_comp (walk_zipS hn) hz R hR (fun H' sm => ⟨sm.sq hx, sm.sq hy⟩) (fun i x H1 H2 hi hy => ?_) (fun i x H1 H2 D acc N hi sm hD e1 hy s12 hN => ?_) k⟩
  · obtain ⟨T, u, v, rfl, hT, e, hu, hv⟩ := hy
    subst e
    exact Same.new hT
  · obtain ⟨T, u, v, rfl, hT, e, hu, hv⟩ := hy
    subst e
    exact w_pair (Sq.tup upd_same) ⟨hw u v, hs i u v _ D acc N hi hu hv (sm.trans s12) hD (s12 _ _ e1) hN⟩
end
end L2

namespace L2
open PySem PySem.Spec PyProof.Rows
/-! ### data over the heap: relations that new objects leave as they are -/
abbrev Rep (α : Type) := Hp → V → α → Prop
def RMono {α : Type} (R : Rep α) : Prop := ∀ H H' v x, Same H H' → R H v x → R H' v x
/-- no list in it: what stands at a list may be left out -/
def RTup {α : Type} (R : Rep α) : Prop := ∀ H D v x, NTup (H D) → R H v x → R (hide D H) v x
def RLst {α : Type} (R : Rep α) : Prop := ∀ H D v x ys, H D = some (.lst ys) → R H v x → R (hide D H) v x
theorem RTup.lst {α : Type} {R : Rep α} (h : RTup R) : RLst R := fun H D v x _ e r => h H D v x (NTup.lst e) r
def RInt : Rep Int := fun _ v i => v = .int i
/-- numbers in a list (true) or a tuple (false) -/
def RVec (b : Bool) (K : PySem.W.Frag) : Rep (List Int) := fun H v ns => ∃ a, v = .ref a ∧ Sq b K H a (ns.map V.int)
def RSeq (b : Bool) (K : PySem.W.Frag) {α : Type} (R : Rep α) : Rep (List α) := fun H v xs => ∃ a vs, v = .ref a ∧ Sq b K H a vs ∧ vs.length = xs.length ∧ ∀ (i : Nat) y x, vs[i]? = some y → xs[i]? = some x → R H y x
def RPair (K : PySem.W.Frag) {α β : Type} (R : Rep α) (S : Rep β) : Rep (α × β) := fun H v p => ∃ a x y, v = .ref a ∧ Sq false K H a [x, y] ∧ R H x p.1 ∧ S H y p.2
section
variable {K : PySem.W.Frag} {α β : Type} {R : Rep α} {S : Rep β} {b : Bool}
theorem RInt.mono : RMono RInt := fun _ _ _ _ _ h => h
theorem RInt.tup : RTup RInt := fun _ _ _ _ _ h => h
theorem RVec.mono : RMono (RVec b K) := fun _ _ _ _ s ⟨a, e, h⟩ => ⟨a, e, s.sq h⟩
theorem RVec.tup : RTup (RVec false K) := fun _ _ _ _ hD ⟨a, e, h⟩ => ⟨a, e, sq_hide hD h⟩
theorem RSeq.mono (hR : RMono R) : RMono (RSeq b K R) := fun _ _ _ _ s ⟨a, vs, e, h, hl, q⟩ => ⟨a, vs, e, s.sq h, hl, fun i y x h1 h2 => hR _ _ _ _ s (q i y x h1 h2)⟩
theorem RSeq.tup (hR : RTup R) : RTup (RSeq false K R) := fun _ _ _ _ hD ⟨a, vs, e, h, hl, q⟩ => ⟨a, vs, e, sq_hide hD h, hl, fun i y x h1 h2 => hR _ _ _ _ hD (q i y x h1 h2)⟩
theorem RPair.mono (hR : RMono R) (hS : RMono S) : RMono (RPair K R S) := fun _ _ _ _ s ⟨a, x, y, e, h, h1, h2⟩ => ⟨a, x, y, e, s.sq h, hR _ _ _ _ s h1, hS _ _ _ _ s h2⟩
theorem RPair.tup (hR : RTup R) (hS : RTup S) : RTup (RPair K R S) := fun _ _ _ _ hD ⟨a, x, y, e, h, h1, h2⟩ => ⟨a, x, y, e, sq_hide hD h, hR _ _ _ _ hD h1, hS _ _ _ _ hD h2⟩
theorem RSeq.get {H : Hp} {vs : List V} {xs : List α} (hl : vs.length = xs.length) (q : ∀ (i : Nat) y x, vs[i]? = some y → xs[i]? = some x → R H y x) {i : Nat} {x : α} (h : xs[i]? = some x) : ∃ y, vs[i]? = some y ∧ R H y x := by
  have hi := (List.getElem?_eq_some_iff.mp h).1
  exact ⟨vs[i], List.getElem?_eq_getElem (by omega), q i _ x (List.getElem?_eq_getElem (by omega)) h⟩
theorem vec_at {ns : List Int} {i : Nat} {y : V} (h : (ns.map V.int)[i]? = some y) : y = .int (nth ns (i : Nat)) ∧ i < ns.length := by
  have hi := (List.getElem?_eq_some_iff.mp h).1
  rw [List.length_map] at hi
  rw [List.getElem?_map, List.getElem?_eq_getElem hi] at h
  refine ⟨?_, hi⟩
  rw [← Option.some.inj h, nth_nat, List.getD_eq_getElem?_getD, List.getElem?_eq_getElem hi]
  rfl
theorem vec_get {ns : List Int} {i : Nat} (hi : i < ns.length) : (ns.map V.int)[i]? = some (.int (nth ns (i : Nat))) := by
  rw [List.getElem?_map, List.getElem?_eq_getElem hi, nth_nat, List.getD_eq_getElem?_getD, List.getElem?_eq_getElem hi]
  rfl
theorem vec_of {ys : List V} {ns : List Int} (hl : ys.length = ns.length) (h : ∀ (i : Nat) y, ys[i]? = some y → y = .int (nth ns (i : Nat))) : ys = ns.map V.int := by
  refine List.ext_getElem? fun i => ?_
  by_cases hi : i < ys.length
  · rw [vec_get (by omega), List.getElem?_eq_getElem hi]
    exact congrArg some (h i _ (List.getElem?_eq_getElem hi))
  · rw [List.getElem?_eq_none (by omega), List.getElem?_eq_none (by rw [List.length_map]; omega)]
end
section
variable {K : PySem.W.Frag} {σ : St} {H : Hp} {te : TE} {vs : List Nat} {Q : VK} {b b1 b2 : Bool} {a a1 a2 : Addr} {j : Nat}
/-- a comprehension that gives numbers -/
theorem c_ints (xs : List V) (hx : Sq b K H a xs) (ms : List Int) (hl : ms.length = xs.length) (hz : xs.length < sizeLine) (hw : ∀ x : V, wipe ((wipe σ vs).set j (some x)) vs = wipe σ vs)
    (hs : ∀ (i : Nat) x H1 (N : VK), i < xs.length → xs[i]? = some x → Same H H1 → (∀ H4, Same H1 H4 → N (.int (nth ms (i : Nat))) H4) → te ((wipe σ vs).set j (some x)) H1 N)
    (k : ∀ D H', H D = none → Same H H' → H' D = some (.lst (ms.map V.int)) → Q (.ref D) H') :
    ∃ a', V.ref a = .ref a' ∧ ((∃ xs, SqL K H a' xs) ∧ CompOk (Itl K a') (gName j) tYes te vs σ H Q ∨ (∃ xs, SqT K H a' xs) ∧ CompOk (Itt K a') (gName j) tYes te vs σ H Q) :=
  l_compS xs hx hz (fun i y _ => y = .int (nth ms (i : Nat))) (fun _ _ _ _ _ h => h) hw (fun i x H1 D acc N hi hxi sm hD e1 hN => hs i x H1 N hi hxi sm fun H4 s4 => hN _ H4 s4 rfl)
    (fun D H' ys hD sm e hly hr => k D H' hD sm (by rw [e, vec_of (by omega) hr]))
theorem c_intsR {n : Int} (h1 : -(2 ^ 62) ≤ n) (h2 : n < 16000000) (ms : List Int) (hl : ms.length = n.toNat) (hw : ∀ x : V, wipe ((wipe σ vs).set j (some x)) vs = wipe σ vs)
    (hs : ∀ (i : Nat) H1 (N : VK), (i : Int) < n → Same H H1 → (∀ H4, Same H1 H4 → N (.int (nth ms (i : Nat))) H4) → te ((wipe σ vs).set j (some (.int (i : Int)))) H1 N)
    (k : ∀ D H', H D = none → Same H H' → H' D = some (.lst (ms.map V.int)) → Q (.ref D) H') :
    ∃ j' : Int, [V.int n] = [.int j'] ∧ -(2 ^ 62) ≤ j' ∧ j' < 2 ^ 62 ∧ CompOk (Itr 0 j'.toNat) (gName j) tYes te vs σ H Q :=
  l_compR h1 h2 (fun i y _ => y = .int (nth ms (i : Nat))) (fun _ _ _ _ _ h => h) hw (fun i H1 D acc N hi sm hD e1 hN => hs i H1 N hi sm fun H4 s4 => hN _ H4 s4 rfl)
    (fun D H' ys hD sm e hly hr => k D H' hD sm (by rw [e, vec_of (by omega) hr]))
theorem c_intsZ {i1 i2 nn : Nat} (xs ys : List V) (hn : xs.length = ys.length) (hx : Sq b1 K H a1 xs) (hy : Sq b2 K H a2 ys) (ms : List Int) (hl : ms.length = xs.length) (hz : xs.length < sizeLine) (hnn : nn = 2)
    (hw : ∀ x y : V, wipe (((wipe σ vs).set i1 (some x)).set i2 (some y)) vs = wipe σ vs)
    (hs : ∀ (i : Nat) x y H1 (N : VK), i < xs.length → xs[i]? = some x → ys[i]? = some y → Same H H1 → (∀ H4, Same H1 H4 → N (.int (nth ms (i : Nat))) H4) → te (((wipe σ vs).set i1 (some x)).set i2 (some y)) H1 N)
    (k : ∀ D H', H D = none → Same H H' → H' D = some (.lst (ms.map V.int)) → Q (.ref D) H') :
    ∃ a' b', [V.ref a1, V.ref a2] = [.ref a', .ref b'] ∧ ∃ b1 b2 xs ys, Sq b1 K H a' xs ∧ Sq b2 K H b' ys ∧ CompOk (ItzS b1 b2 K a' b') (gTup K nn (gCons (gName i1) (gCons (gName i2) gNil))) tYes te vs σ H Q :=
  l_compZ xs ys hn hx hy hz (fun i y _ => y = .int (nth ms (i : Nat))) (fun _ _ _ _ _ h => h) hnn hw (fun i x y H1 D acc N hi hxi hyi sm hD e1 hN => hs i x y H1 N hi hxi hyi sm fun H4 s4 => hN _ H4 s4 rfl)
    (fun D H' zs hD sm e hly hr => k D H' hD sm (by rw [e, vec_of (by omega) hr]))
/-- a comprehension that gives data without the new list in them -/
theorem c_repL {α : Type} {R : Rep α} (hm : RMono R) (ht : RLst R) (xs : List V) (hx : Sq b K H a xs) (ds : List α) (hl : ds.length = xs.length) (hz : xs.length < sizeLine) (hw : ∀ x : V, wipe ((wipe σ vs).set j (some x)) vs = wipe σ vs)
    (hs : ∀ (i : Nat) x d H1 (N : VK), i < xs.length → xs[i]? = some x → ds[i]? = some d → Same H H1 → (∀ y H4, Same H1 H4 → R H4 y d → N y H4) → te ((wipe σ vs).set j (some x)) H1 N)
    (k : ∀ D H' ys, H D = none → Same H H' → H' D = some (.lst ys) → ys.length = ds.length → (∀ (i : Nat) y d, ys[i]? = some y → ds[i]? = some d → R H' y d) → Q (.ref D) H') :
    ∃ a', V.ref a = .ref a' ∧ ((∃ xs, SqL K H a' xs) ∧ CompOk (Itl K a') (gName j) tYes te vs σ H Q ∨ (∃ xs, SqT K H a' xs) ∧ CompOk (Itt K a') (gName j) tYes te vs σ H Q) :=
  l_compS xs hx hz (fun i y H' => ∀ d, ds[i]? = some d → R H' y d) (fun _ _ _ _ s h d hd => hm _ _ _ _ s (h d hd)) hw
    (fun i x H1 D acc N hi hxi sm hD e1 hN => by
      obtain ⟨d, hd⟩ : ∃ d, ds[i]? = some d := ⟨ds[i]'(by omega), List.getElem?_eq_getElem (by omega)⟩
      refine hs i x d H1 N hi hxi hd sm fun y H4 s4 r4 => hN y H4 s4 fun d' hd' => ?_
      rw [hd] at hd'
      cases hd'
      exact ht _ D _ _ _ (s4 _ _ e1) r4)
    (fun D H' ys hD sm e hly hr => k D H' ys hD sm e (by omega) fun i y d h1 h2 => hm _ _ _ _ (hide_same D H') (hr i y h1 d h2))
/-- a comprehension that gives data without lists -/
theorem c_rep {α : Type} {R : Rep α} (hm : RMono R) (ht : RTup R) (xs : List V) (hx : Sq b K H a xs) (ds : List α) (hl : ds.length = xs.length) (hz : xs.length < sizeLine) (hw : ∀ x : V, wipe ((wipe σ vs).set j (some x)) vs = wipe σ vs)
    (hs : ∀ (i : Nat) x d H1 (N : VK), i < xs.length → xs[i]? = some x → ds[i]? = some d → Same H H1 → (∀ y H4, Same H1 H4 → R H4 y d → N y H4) → te ((wipe σ vs).set j (some x)) H1 N)
    (k : ∀ D H' ys, H D = none → Same H H' → H' D = some (.lst ys) → ys.length = ds.length → (∀ (i : Nat) y d, ys[i]? = some y → ds[i]? = some d → R H' y d) → Q (.ref D) H') :
    ∃ a', V.ref a = .ref a' ∧ ((∃ xs, SqL K H a' xs) ∧ CompOk (Itl K a') (gName j) tYes te vs σ H Q ∨ (∃ xs, SqT K H a' xs) ∧ CompOk (Itt K a') (gName j) tYes te vs σ H Q) :=
  c_repL hm ht.lst xs hx ds hl hz hw hs k
theorem c_repR {α : Type} {R : Rep α} {n : Int} (hm : RMono R) (ht : RTup R) (h1 : -(2 ^ 62) ≤ n) (h2 : n < 16000000) (ds : List α) (hl : ds.length = n.toNat) (hw : ∀ x : V, wipe ((wipe σ vs).set j (some x)) vs = wipe σ vs)
    (hs : ∀ (i : Nat) d H1 (N : VK), (i : Int) < n → ds[i]? = some d → Same H H1 → (∀ y H4, Same H1 H4 → R H4 y d → N y H4) → te ((wipe σ vs).set j (some (.int (i : Int)))) H1 N)
    (k : ∀ D H' ys, H D = none → Same H H' → H' D = some (.lst ys) → ys.length = ds.length → (∀ (i : Nat) y d, ys[i]? = some y → ds[i]? = some d → R H' y d) → Q (.ref D) H') :
    ∃ j' : Int, [V.int n] = [.int j'] ∧ -(2 ^ 62) ≤ j' ∧ j' < 2 ^ 62 ∧ CompOk (Itr 0 j'.toNat) (gName j) tYes te vs σ H Q :=
  l_compR h1 h2 (fun i y H' => ∀ d, ds[i]? = some d → R H' y d) (fun _ _ _ _ s h d hd => hm _ _ _ _ s (h d hd)) hw
    (fun i H1 D acc N hi sm hD e1 hN => by
      obtain ⟨d, hd⟩ : ∃ d, ds[i]? = some d := ⟨ds[i]'(by omega), List.getElem?_eq_getElem (by omega)⟩
      refine hs i d H1 N hi hd sm fun y H4 s4 r4 => hN y H4 s4 fun d' hd' => ?_
      rw [hd] at hd'
      cases hd'
      exact ht _ D _ _ (NTup.lst (s4 _ _ e1)) r4)
    (fun D H' ys hD sm e hly hr => k D H' ys hD sm e (by omega) fun i y d h1 h2 => hm _ _ _ _ (hide_same D H') (hr i y h1 d h2))
/-- the same data twice -/
theorem RInt.sm {n : Nat} {x y : V} {i : Int} (h1 : RInt H x i) (h2 : RInt H y i) : Sm K H n x y := by
  cases h1
  cases h2
  exact Sm.int
theorem RSeq.sm {α : Type} {R S : Rep α} {n : Nat} {x y : V} {ds : List α} (hz : ds.length ≤ 100000) (hRS : ∀ x y d, d ∈ ds → R H x d → S H y d → Sm K H n x y) (h1 : RSeq false K R H x ds) (h2 : RSeq b K S H y ds) : Sm K H (n + 1) x y := by
  obtain ⟨a, xs, rfl, hx, hxl, hxr⟩ := h1
  obtain ⟨a', ys, rfl, hy, hyl, hyr⟩ := h2
  refine .inr ⟨a, a', b, xs, ys, rfl, rfl, hx, hy, by omega, by omega, fun i x' y' e1 e2 => ?_⟩
  have hi := (List.getElem?_eq_some_iff.mp e1).1
  have hd : ds[i]? = some (ds[i]'(by omega)) := List.getElem?_eq_getElem (by omega)
  exact hRS _ _ _ (List.mem_of_getElem? hd) (hxr i _ _ e1 hd) (hyr i _ _ e2 hd)
theorem RVec.sm {n : Nat} {x y : V} {ns : List Int} (hz : ns.length ≤ 100000) (h1 : RVec false K H x ns) (h2 : RVec b K H y ns) : Sm K H (n + 1) x y := by
  obtain ⟨a, rfl, hx⟩ := h1
  obtain ⟨a', rfl, hy⟩ := h2
  refine .inr ⟨a, a', b, _, _, rfl, rfl, hx, hy, rfl, by rw [List.length_map]; exact hz, fun i x' y' e1 e2 => ?_⟩
  rw [(vec_at e1).1, (vec_at e2).1]
  exact Sm.int
theorem RPair.sm {α β : Type} {R R' : Rep α} {S S' : Rep β} {n : Nat} {x y : V} {p : α × β} (hR : ∀ x y, R H x p.1 → R' H y p.1 → Sm K H n x y) (hS : ∀ x y, S H x p.2 → S' H y p.2 → Sm K H n x y) (h1 : RPair K R S H x p) (h2 : RPair K R' S' H y p) : Sm K H (n + 1) x y := by
  obtain ⟨a, x1, x2, rfl, hx, r1, r2⟩ := h1
  obtain ⟨a', y1, y2, rfl, hy, q1, q2⟩ := h2
  refine .inr ⟨a, a', false, _, _, rfl, rfl, hx, hy, rfl, by show 2 ≤ 100000; omega, fun i x' y' e1 e2 => ?_⟩
  match i, e1, e2 with
  | 0, e1, e2 => cases e1; cases e2; exact hR _ _ r1 q1
  | 1, e1, e2 => cases e1; cases e2; exact hS _ _ r2 q2
  | i + 2, e1, _ => simp at e1
end
/-! ### fields of objects -/
section
variable {K : PySem.W.Frag} {σ : St} {H : Hp} {v : V} {Q : VK} {ta : TE} {D : Ends}
theorem lk_here {f : Str} {v : V} {r : List (Str × V)} : List.lookup f ((f, v) :: r) = some v := by simp [List.lookup]
theorem lk_next {f g : Str} {v : V} {r : List (Str × V)} {o : Option V} (h : (f == g) = false) (q : List.lookup f r = o) : List.lookup f ((g, v) :: r) = o := by
  rw [List.lookup, h]; exact q
theorem pf_here {f : Str} {v u : V} {r : List (Str × V)} : putF f v ((f, u) :: r) = (f, v) :: r := by
  show (if f = f then _ else _) = _
  rw [if_pos rfl]
theorem pf_next {f g : Str} {v u : V} {r r' : List (Str × V)} (h : (g == f) = false) (q : putF f v r = r') : putF f v ((g, u) :: r) = (g, u) :: r' := by
  have hne : ¬ g = f := fun e => by rw [e] at h; simp at h
  show (if g = f then _ else (g, u) :: putF f v r) = _
  rw [if_neg hne, q]
theorem pf_nil {f : Str} {v : V} : putF f v [] = [(f, v)] := rfl
theorem w_fld {f : Str} (q : ta σ H fun x H1 => ∃ a C dx fs v, x = .ref a ∧ H1 a = some (.ins C dx fs) ∧ Cls K C ∧ NoAttr K C f ∧ fs.lookup f = some v ∧ Q v H1) : tFld K ta f σ H Q := q
theorem w_fldAt {f : Str} {p C dx : Addr} {fs : List (Str × V)} (h : H p = some (.ins C dx fs)) (c : Cls K C) (n : NoAttr K C f) (l : fs.lookup f = some v) {F : V → Prop} (q : F v) :
    ∃ a C dx fs v, V.ref p = .ref a ∧ H a = some (.ins C dx fs) ∧ Cls K C ∧ NoAttr K C f ∧ fs.lookup f = some v ∧ F v := ⟨p, C, dx, fs, v, rfl, h, c, n, l, q⟩
theorem w_sfld {f : Str} {tv : TE} {nx b' c' : St → Hp → Prop} {rt : VK} (q : tv σ H fun y H1 => ta σ H1 fun x H2 => ∃ a C dx fs, x = .ref a ∧ H2 a = some (.ins C dx fs) ∧ Cls K C ∧ NoAttr K C f ∧ fs.length < 1000 ∧ nx σ (upd H2 a (.ins C dx (putF f y fs)))) : sFld K ta tv f ⟨nx, rt, b', c'⟩ σ H := q
theorem w_sfldAt {f : Str} {p C dx : Addr} {fs fs' : List (Str × V)} {y : V} (h : H p = some (.ins C dx fs)) (c : Cls K C) (n : NoAttr K C f) (hl : fs.length < 1000) (e : putF f y fs = fs') {F : Hp → Prop} (q : F (upd H p (.ins C dx fs'))) :
    ∃ a C dx fs, V.ref p = .ref a ∧ H a = some (.ins C dx fs) ∧ Cls K C ∧ NoAttr K C f ∧ fs.length < 1000 ∧ F (upd H a (.ins C dx (putF f y fs))) := ⟨p, C, dx, fs, rfl, h, c, n, hl, by rw [e]; exact q⟩
theorem w_meth {C : Addr} {m : Str} {sp : Sp} {dvs : List V} {E : XK} {t : TA} (q : ta σ H fun x H1 => ∃ a dx fs, x = .ref a ∧ H1 a = some (.ins C dx fs) ∧ fs.lookup m = none ∧ t σ H1 fun vs H2 => sp (x :: (vs ++ dvs)) H2 Q E) : tMeth C m sp dvs E ta t σ H Q := q
theorem w_methAt {m : Str} {p C dx : Addr} {fs : List (Str × V)} {B : Prop} (h : H p = some (.ins C dx fs)) (l : fs.lookup m = none) (q : B) : ∃ a dx fs, V.ref p = .ref a ∧ H a = some (.ins C dx fs) ∧ fs.lookup m = none ∧ B := ⟨p, dx, fs, rfl, h, l, q⟩
theorem w_make {C : Addr} {sp : Sp} {dvs : List V} {E : XK} {t : TA} (q : t σ H fun vs H1 => ∀ x dx, H1 x = none → H1 dx = none → dx ≠ x → sp (.ref x :: (vs ++ dvs)) (upd (upd H1 dx (.own x)) x (.ins C dx [])) (fun v H2 => v = .non ∧ Q (.ref x) H2) E) : tMake C sp dvs E t σ H Q := q
theorem w_notInS {neg : Bool} {x : V} {p : Addr} {xs : List V} {b : Bool} (h : Sq b K H p xs) (hx : flatV x = true) (ha : xs.all flatV = true) (q : Q (.bl (if neg then !inV x xs else inV x xs)) H) : rIn K neg x (.ref p) H Q := ⟨p, xs, rfl, h.or, hx, ha, q⟩
theorem w_chain {r r' : R2} {tb tc : TE} (q : ta σ H fun x H1 => tb σ H1 fun y H2 => r x y H2 fun z H3 => ∃ k, z = .bl k ∧ if k = true then tc σ H3 fun w H4 => r' y w H4 Q else Q (.bl false) H3) : tChain r r' ta tb tc σ H Q := q
end
end L2

namespace L2
open PySem PySem.Spec PyProof.Rows
theorem RTup.upd {α : Type} {R : Rep α} (ht : RTup R) (hm : RMono R) {H : Hp} {D : Addr} {o : HO} {v : V} {x : α} (hD : NTup (H D)) (h : R H v x) : R (L2.upd H D o) v x := by
  have h1 := ht _ _ _ _ hD h
  rw [← hide_upd D H o] at h1
  exact hm _ _ _ _ (hide_same D _) h1
/-- a list that a loop fills: at D, its items relate to the data without the list itself -/
structure Filled {α : Type} (R : Rep α) (H0 H : Hp) (D : Addr) (ds : List α) : Prop where
  new : H0 D = none
  same : Same H0 H
  at_ : ∃ ys, H D = some (.lst ys) ∧ ys.length = ds.length ∧ ∀ (i : Nat) y d, ys[i]? = some y → ds[i]? = some d → R (hide D H) y d
theorem Filled.nil {α : Type} {R : Rep α} {H : Hp} {D : Addr} (h : H D = none) : Filled R H (L2.upd H D (.lst [])) D [] :=
  ⟨h, Same.new h, [], upd_same, rfl, fun i y d e => by simp at e⟩
theorem Filled.mono {α : Type} {R : Rep α} (hm : RMono R) {H0 H H' : Hp} {D : Addr} {ds : List α} (f : Filled R H0 H D ds) (s : Same H H') : Filled R H0 H' D ds := by
  obtain ⟨ys, e, hl, hr⟩ := f.at_
  exact ⟨f.new, f.same.trans s, ys, s _ _ e, hl, fun i y d h1 h2 => hm _ _ _ _ (hide_mono s) (hr i y d h1 h2)⟩
theorem Filled.push {α : Type} {R : Rep α} {H0 H : Hp} {D : Addr} {ds : List α} {d : α} {y : V} (f : Filled R H0 H D ds) (hy : R (hide D H) y d) : ∃ ys, H D = some (.lst ys) ∧ ys.length = ds.length ∧ Filled R H0 (L2.upd H D (.lst (ys ++ [y]))) D (ds ++ [d]) := by
  obtain ⟨ys, e, hl, hr⟩ := f.at_
  refine ⟨ys, e, hl, f.new, Same.mut f.same f.new, ys ++ [y], upd_same, by simp [hl], fun i y' d' h1 h2 => ?_⟩
  rw [hide_upd]
  by_cases hi : i < ys.length
  · rw [List.getElem?_append_left hi] at h1
    rw [List.getElem?_append_left (by omega)] at h2
    exact hr i y' d' h1 h2
  · have h3 := (List.getElem?_eq_some_iff.mp h1).1
    rw [List.length_append] at h3
    have ei : i = ys.length := by
      have : i < ys.length + 1 := h3
      omega
    subst ei
    rw [List.getElem?_append_right (Nat.le_refl _), Nat.sub_self] at h1
    rw [hl, List.getElem?_append_right (Nat.le_refl _), Nat.sub_self] at h2
    cases h1
    cases h2
    exact hy
theorem Filled.seq {α : Type} {R : Rep α} (hm : RMono R) {K : PySem.W.Frag} {H0 H : Hp} {D : Addr} {ds : List α} (f : Filled R H0 H D ds) : RSeq true K R H (.ref D) ds := by
  obtain ⟨ys, e, hl, hr⟩ := f.at_
  exact ⟨D, ys, rfl, Sq.lst e, hl, fun i y d h1 h2 => hm _ _ _ _ (hide_same D H) (hr i y d h1 h2)⟩
section
variable {K : PySem.W.Frag} {σ : St} {H : Hp} {N : St → Hp → Prop}
theorem w_pairG {i : Nat} {g : TG} {a : Addr} {x y : V} (h : Sq false K H a [x, y]) (q : g y (σ.set i (some x)) H N) : gTup K 2 (gCons (gName i) (gCons g gNil)) (.ref a) σ H N :=
  ⟨a, [x, y], rfl, h, rfl, x, [y], rfl, y, [], rfl, (by
    have : (fun σ' H' => gNil [] σ' H' N) = N := by
      funext σ' H'
      exact propext ⟨fun h => h.2, fun h => ⟨rfl, h⟩⟩
    rw [this]; exact q)⟩
theorem w_trip {i j k : Nat} {a : Addr} {x y z : V} (h : Sq false K H a [x, y, z]) (q : N (((σ.set i (some x)).set j (some y)).set k (some z)) H) : gTup K 3 (gCons (gName i) (gCons (gName j) (gCons (gName k) gNil))) (.ref a) σ H N :=
  ⟨a, [x, y, z], rfl, h, rfl, x, [y, z], rfl, y, [z], rfl, z, [], rfl, rfl, q⟩
theorem w_five {i1 i2 i3 i4 i5 : Nat} {a : Addr} {x1 x2 x3 x4 x5 : V} (h : Sq false K H a [x1, x2, x3, x4, x5]) (q : N (((((σ.set i1 (some x1)).set i2 (some x2)).set i3 (some x3)).set i4 (some x4)).set i5 (some x5)) H) :
    gTup K 5 (gCons (gName i1) (gCons (gName i2) (gCons (gName i3) (gCons (gName i4) (gCons (gName i5) gNil))))) (.ref a) σ H N :=
  ⟨a, [x1, x2, x3, x4, x5], rfl, h, rfl, x1, [x2, x3, x4, x5], rfl, x2, [x3, x4, x5], rfl, x3, [x4, x5], rfl, x4, [x5], rfl, x5, [], rfl, rfl, q⟩
theorem RSeq.five {α : Type} {R : Rep α} {v : V} {d0 d1 d2 d3 d4 : α} (h : RSeq false K R H v [d0, d1, d2, d3, d4]) : ∃ a x0 x1 x2 x3 x4, v = .ref a ∧ Sq false K H a [x0, x1, x2, x3, x4] ∧ R H x0 d0 ∧ R H x1 d1 ∧ R H x2 d2 ∧ R H x3 d3 ∧ R H x4 d4 := by
  obtain ⟨a, vs, e, hs, hl, hr⟩ := h
  match vs, hl with
  | [x0, x1, x2, x3, x4], _ => exact ⟨a, x0, x1, x2, x3, x4, e, hs, hr 0 _ _ rfl rfl, hr 1 _ _ rfl rfl, hr 2 _ _ rfl rfl, hr 3 _ _ rfl rfl, hr 4 _ _ rfl rfl⟩
theorem RSeq.lt {α : Type} {R : Rep α} {b : Bool} {v : V} {ds : List α} (h : RSeq b K R H v ds) : ∃ a vs, v = .ref a ∧ Sq b K H a vs ∧ vs.length = ds.length ∧ ∀ (i : Nat) y x, vs[i]? = some y → ds[i]? = some x → R H y x := h
/-- cuts of lists -/
theorem cutV_fromto {xs : List V} {a b : Nat} (h : a ≤ b) (hb : b ≤ xs.length) : cutV xs (some (a : Int)) (some (b : Int)) = (xs.drop a).take (b - a) := by
  unfold cutV
  rw [HT.sIx_nat, HT.sIx_nat, Nat.min_eq_left hb, Nat.min_eq_left (Nat.le_trans h hb)]
theorem cutV_upto {xs : List V} {b : Nat} (hb : b ≤ xs.length) : cutV xs none (some (b : Int)) = xs.take b := by
  unfold cutV
  rw [HT.sIx_none, HT.sIx_nat, Nat.min_eq_left hb, List.drop_zero, Nat.sub_zero]
theorem cutV_from {xs : List V} {a : Nat} (ha : a ≤ xs.length) : cutV xs (some (a : Int)) none = xs.drop a := by
  unfold cutV
  rw [HT.sIx_none, HT.sIx_nat, Nat.min_eq_left ha, List.take_of_length_le (by rw [List.length_drop]; omega)]
theorem w_slC {a : Addr} {xs ys : List V} {lo hi : Option Int} {Q : VK} (h : Sq true K H a xs) (e : cutV xs lo hi = ys) (q : ∀ p, H p = none → Q (.ref p) (L2.upd H p (.lst ys))) : rSlG K (.ref a) lo hi H Q :=
  .inl ⟨a, xs, rfl, h, fun p hp => by rw [e]; exact q p hp⟩
theorem cutV_int {xs : List V} {a b : Int} (h0 : 0 ≤ a) (h : a ≤ b) (hb : b ≤ xs.length) : cutV xs (some a) (some b) = (xs.drop a.toNat).take (b.toNat - a.toNat) := by
  obtain ⟨n, rfl⟩ := Int.eq_ofNat_of_zero_le h0
  obtain ⟨m, rfl⟩ := Int.eq_ofNat_of_zero_le (Int.le_trans h0 h)
  rw [Int.toNat_natCast, Int.toNat_natCast]
  exact cutV_fromto (by omega) (by omega)
theorem cutV_intTo {xs : List V} {b : Int} (h0 : 0 ≤ b) (hb : b ≤ xs.length) : cutV xs none (some b) = xs.take b.toNat := by
  obtain ⟨m, rfl⟩ := Int.eq_ofNat_of_zero_le h0
  rw [Int.toNat_natCast]
  exact cutV_upto (by omega)
/-- a cut of a list or of a tuple -/
theorem w_slAny {b : Bool} {a : Addr} {xs ys : List V} {lo hi : Option Int} {Q : VK} (h : Sq b K H a xs) (e : cutV xs lo hi = ys) (q : ∀ p H', Same H H' → Sq b K H' p ys → Q (.ref p) H') : rSlG K (.ref a) lo hi H Q := by
  cases b with
  | true => exact .inl ⟨a, xs, rfl, h, fun p hp => q _ _ (Same.new hp) (Sq.lst (by rw [upd_same, e]))⟩
  | false =>
    refine .inr ⟨a, xs, rfl, h, fun hw => ?_, fun _ p hp => q _ _ (Same.new hp) (Sq.tup (by rw [upd_same, e]))⟩
    have e2 : xs = ys := by
      rw [← e]
      unfold cutV
      rw [hw.1, hw.2, List.drop_zero, Nat.sub_zero, List.take_length]
    exact q _ _ (Same.refl _) (e2 ▸ h)
theorem rep_cut {α : Type} {R : Rep α} {vs : List V} {xs : List α} (hr : ∀ (i : Nat) y x, vs[i]? = some y → xs[i]? = some x → R H y x) (a n : Nat) : ∀ (i : Nat) y x, ((vs.drop a).take n)[i]? = some y → ((xs.drop a).take n)[i]? = some x → R H y x := fun i y x h1 h2 => by
  rw [List.getElem?_take] at h1 h2
  split at h1
  · rw [if_pos (by assumption), List.getElem?_drop] at h2
    rw [List.getElem?_drop] at h1
    exact hr _ _ _ h1 h2
  · cases h1
theorem rep_to {α : Type} {R : Rep α} {vs : List V} {xs : List α} (hr : ∀ (i : Nat) y x, vs[i]? = some y → xs[i]? = some x → R H y x) (n : Nat) : ∀ (i : Nat) y x, (vs.take n)[i]? = some y → (xs.take n)[i]? = some x → R H y x := rep_cut hr 0 n
/-- adding two lists -/
theorem w_catLL {l b : Addr} {xs zs : List V} {Q : VK} (h1 : H l = some (.lst xs)) (h2 : H b = some (.lst zs)) (hz : xs.length + zs.length ≤ sizeLine) (q : ∀ p, H p = none → Q (.ref p) (L2.upd H p (.lst (xs ++ zs)))) : rAddG K (.ref l) (.ref b) H Q :=
  .inr (.inr ⟨l, b, xs, zs, rfl, rfl, h1, h2, hz, q⟩)
end
end L2

namespace L2
open PySem PySem.Spec PyProof.Rows
/-! ### data without lists, equal to itself -/
mutual
theorem eqv_refl : ∀ d : PyData, d.canLay0 = true → PyData.eqv d d = true
  | .none, _ => by simp only [PyData.eqv]
  | .bool b, _ => by simp only [PyData.eqv, beq_self_eq_true]
  | .int i, _ => by simp only [PyData.eqv, beq_self_eq_true]
  | .str x, _ => by simp only [PyData.eqv, beq_self_eq_true]
  | .list xs, h => by
    simp only [PyData.eqv]
    exact eqvAll_refl xs (by simpa only [PyData.canLay0] using h)
  | .tuple xs, h => by
    simp only [PyData.eqv]
    exact eqvAll_refl xs (by simpa only [PyData.canLay0] using h)
  | .dict _, h => by simp only [PyData.canLay0] at h; cases h
theorem eqvAll_refl : ∀ ds : List PyData, PyData.canLayAll0 ds = true → PyData.eqvAll ds ds = true
  | [], _ => by simp only [PyData.eqvAll]
  | d :: r, h => by
    simp only [PyData.canLayAll0, Bool.and_eq_true] at h
    simp only [PyData.eqvAll, eqv_refl d h.1, eqvAll_refl r h.2, Bool.and_self]
end
/-- data of a kind: as PyData, laid, no deeper than n -/
structure Dat {α : Type} (K : PySem.W.Frag) (R : Rep α) (f : α → PyData) (n : Nat) : Prop where
  dp : ∀ H v d, R H v d → Dp K H v (f d)
  lay : ∀ d, (f d).canLay0 = true
  deep : ∀ d, (f d).depth ≤ n
theorem canLayAll_map {α : Type} {f : α → PyData} (h : ∀ d, (f d).canLay0 = true) : ∀ ds : List α, PyData.canLayAll0 (ds.map f) = true
  | [] => by simp only [List.map_nil, PyData.canLayAll0]
  | d :: r => by simp only [List.map_cons, PyData.canLayAll0, h d, canLayAll_map h r, Bool.and_self]
theorem depthAll_map {α : Type} {f : α → PyData} {n : Nat} (h : ∀ d, (f d).depth ≤ n) : ∀ ds : List α, PyData.depthAll (ds.map f) ≤ n
  | [] => by simp only [List.map_nil, PyData.depthAll]; exact Nat.zero_le _
  | d :: r => by
    simp only [List.map_cons, PyData.depthAll]
    exact Nat.max_le.mpr ⟨h d, depthAll_map h r⟩
theorem dpAll_map {α : Type} {K : PySem.W.Frag} {R : Rep α} {f : α → PyData} {H : Hp} (h : ∀ v d, R H v d → Dp K H v (f d)) : ∀ {vs : List V} {ds : List α}, vs.length = ds.length → (∀ (i : Nat) y x, vs[i]? = some y → ds[i]? = some x → R H y x) → DpAll K H vs (ds.map f)
  | [], [], _, _ => .nil
  | v :: vs, d :: ds, hl, hr => .cons (h v d (hr 0 v d rfl rfl)) (dpAll_map h (by simpa using hl) fun i y x h1 h2 => hr (i + 1) y x (by simpa using h1) (by simpa using h2))
theorem Dat.seq {α : Type} {K : PySem.W.Frag} {R : Rep α} {f : α → PyData} {n : Nat} (h : Dat K R f n) : Dat K (RSeq false K R) (fun ds => .tuple (ds.map f)) (n + 1) where
  dp := fun H v ds ⟨a, vs, e, hs, hl, hr⟩ => by subst e; exact .tup hs (dpAll_map (h.dp H) hl hr)
  lay := fun ds => by simp only [PyData.canLay0]; exact canLayAll_map h.lay ds
  deep := fun ds => by simp only [PyData.depth]; exact Nat.succ_le_succ (depthAll_map h.deep ds)
theorem Dat.vec {K : PySem.W.Frag} : Dat K (RVec false K) (fun ns => .tuple (ns.map PyData.int)) 1 where
  dp := fun H v ns ⟨a, e, hs⟩ => by subst e; exact .tup hs dpAll_ints
  lay := fun ns => by simp only [PyData.canLay0]; exact canLay_ints ns
  deep := fun ns => by simp only [PyData.depth, depth_ints]; exact Nat.le_refl _
theorem Dat.pair {α β : Type} {K : PySem.W.Frag} {R : Rep α} {S : Rep β} {f : α → PyData} {g : β → PyData} {n : Nat} (h : Dat K R f n) (h' : Dat K S g n) : Dat K (RPair K R S) (fun p => .tuple [f p.1, g p.2]) (n + 1) where
  dp := fun H v p ⟨a, x, y, e, hs, h1, h2⟩ => by subst e; exact .tup hs (.cons (h.dp _ _ _ h1) (.cons (h'.dp _ _ _ h2) .nil))
  lay := fun p => by simp only [PyData.canLay0, PyData.canLayAll0, h.lay, h'.lay, Bool.and_self]
  deep := fun p => by
    simp only [PyData.depth, PyData.depthAll]
    exact Nat.succ_le_succ (Nat.max_le.mpr ⟨h.deep _, Nat.max_le.mpr ⟨h'.deep _, Nat.zero_le _⟩⟩)
theorem Dat.up {α : Type} {K : PySem.W.Frag} {R : Rep α} {f : α → PyData} {n m : Nat} (h : Dat K R f n) (hm : n ≤ m) : Dat K R f m := ⟨h.dp, h.lay, fun d => Nat.le_trans (h.deep d) hm⟩
theorem Dat.shaped {α : Type} {K : PySem.W.Frag} {R : Rep α} {f : α → PyData} {n : Nat} (h : Dat K R f n) (hn : n ≤ 64) (d : α) : SeqAt.shaped (f d) = true := by
  unfold SeqAt.shaped
  rw [h.lay, decide_eq_true (Nat.le_trans (h.deep d) hn)]
  rfl
theorem w_neSame {α : Type} {K : PySem.W.Frag} {H : Hp} {Q : VK} {R : Rep α} {f : α → PyData} {n : Nat} (h : Dat K R f n) (hn : n ≤ 64) {x y : V} {d : α} (hx : R H x d) (hy : R H y d) (q : Q (.bl false) H) : rNeG K x y H Q :=
  w_neD (h.dp _ _ _ hx) (h.dp _ _ _ hy) (h.shaped hn d) (h.shaped hn d) (by rw [eqv_refl _ (h.lay d)]; exact q)
theorem w_eqSame {α : Type} {K : PySem.W.Frag} {H : Hp} {Q : VK} {R : Rep α} {f : α → PyData} {n : Nat} (h : Dat K R f n) (hn : n ≤ 64) {x y : V} {d : α} (hx : R H x d) (hy : R H y d) (q : Q (.bl true) H) : rEqG K x y H Q :=
  w_eqD (h.dp _ _ _ hx) (h.dp _ _ _ hy) (h.shaped hn d) (h.shaped hn d) (by rw [eqv_refl _ (h.lay d)]; exact q)
theorem sIx_neg (n d : Nat) : HT.sIx n d (some (-1)) = n - 1 := by
  show (if (-1 : Int) < 0 then ((-1 : Int) + (n : Int)).toNat else min (-1 : Int).toNat n) = n - 1
  rw [if_pos (by decide)]
  omega
theorem cutV_neg {xs : List V} : cutV xs none (some (-1)) = xs.take (xs.length - 1) := by
  unfold cutV
  rw [HT.sIx_none, sIx_neg, List.drop_zero, Nat.sub_zero]
theorem cutV_negFrom {xs : List V} : cutV xs (some (-1)) none = xs.drop (xs.length - 1) := by
  unfold cutV
  rw [HT.sIx_none, sIx_neg, List.take_of_length_le (by rw [List.length_drop]; omega)]
end L2

namespace L2
open PySem PySem.Spec PyProof.Rows
/-! ### the rules that name the written part, K said (within a comprehension's block it is told by rfl) -/
section
variable {X : Cx} {K : PySem.W.Frag} {a b : Expr} {ta tb : TE} {pos : Pos}
theorem k_addG (h : X.K = K) : OpR X (binaryOp .Add) (rAddG K) := h ▸ op_addG
theorem k_eqG (h : X.K = K) (hu : X.A.units + 64 < cLine) : OpR X (compareOp .Eq) (rEqG K) := h ▸ op_eqG hu
theorem k_neG (h : X.K = K) (hu : X.A.units + 64 < cLine) : OpR X (compareOp .NotEq) (rNeG K) := h ▸ op_neG hu
theorem k_inS (h : X.K = K) : OpR X (compareOp .In) (rIn K false) := h ▸ op_in_seq
theorem k_notInS (h : X.K = K) : OpR X (compareOp .NotIn) (rIn K true) := h ▸ op_notIn_seq
theorem k_slG (h : X.K = K) : SlR X (rSlG K) := h ▸ sl_seqG
theorem k_ix (h : X.K = K) : IxR X (rIx K) := h ▸ ix_seq
theorem k_sumS (h : X.K = K) (hc : X.calm = true) : CallR X (.builtin "sum") (rSumS K) := h ▸ cr_sumS hc
theorem k_lenS (h : X.K = K) : CallR X (.builtin "len") (rLenS K) := h ▸ cr_lenS
theorem k_listS (h : X.K = K) : CallR X (.type "list") (rListS K) := h ▸ cr_listS
theorem k_tupS (h : X.K = K) : CallR X (.type "tuple") (rTupS K) := h ▸ cr_tupS
theorem k_isi (h : X.K = K) : CallR X (.builtin "isinstance") (rIsi K) := h ▸ call_isi
theorem k_max (h : X.K = K) (hc : X.calm = true) : CallR X (.builtin "max") (rMax K) := h ▸ cr_max hc
theorem k_min (h : X.K = K) (hc : X.calm = true) : CallR X (.builtin "min") (rMin K) := h ▸ cr_min hc
theorem k_index (h : X.K = K) : MtR X "list.index" (rIndex K) := h ▸ mt_index
theorem k_tru {e : Expr} {te : TE} (h : X.K = K) (he : PE X e te) (hi : ∀ whole, isTrue e X.env whole = (do let v ← whole; standAt e.pos; holding [v] (truthy v))) : PT X e (tTru K te) := h ▸ pt_tru he hi
theorem k_fld {e : Expr} {f : Str} (h : X.K = K) (he : PE X e ta) (hb : attributeBase e f X.env (eval e X.env) = eval e X.env) : PE X (.Attribute e f pos) (tFld K ta f) := h ▸ pe_fld he hb
theorem k_sfld {o value : Expr} {f : Str} {pos' : Pos} {tv : TE} (h : X.K = K) (ha : PE X o ta) (hv : PE X value tv) (hs : swapsWith value (some (.Attribute o f pos')) pos.line X.env = pure false) : PS X (.Assign [.Attribute o f pos'] value pos) (sFld K ta tv f) := h ▸ ps_fld ha hv hs
theorem k_tup {es : List Expr} {kk : Nat} {t : TGs} {n : Nat} (h : X.K = K) (hc : X.calm = true) (hg : PGs X es t) (hn : (assignEach es X.env).length = n := by rfl) (hst : (assignEach es X.env).findIdx? (·.1) = none := by rfl) :
    PG X (.Tuple es kk pos) (gTup K n t) := h ▸ pg_tup hc hg hn hst
theorem k_seqS {tg l : Expr} {tl : TE} (h : X.K = K) (hl : PE X l tl) : PI X tg l (iSeq K tl) := h ▸ pi_seqS hl
theorem k_enumS {e : Expr} {ta : TA} {p pos tpos : Pos} {elts : List Expr} {kk : Nat} (h : X.K = K) (hg : Gl X "enumerate") (hm : X.mg "enumerate" = none) (ha : PA X [e] ta) (hs : starEach [e] X.env = [(false, eval e X.env)] := by rfl) :
    PI X (.Tuple elts kk tpos) (.Call (.Name "enumerate" p) [e] [] pos) (iEnumS K ta) := h ▸ pi_enumS hg hm ha hs
theorem k_zipS {e e2 : Expr} {ta : TA} {p pos tpos : Pos} {elts : List Expr} {kk : Nat} (h : X.K = K) (hg : Gl X "zip") (hm : X.mg "zip" = none) (ha : PA X [e, e2] ta)
    (hs : starEach [e, e2] X.env = (false, eval e X.env) :: starEach [e2] X.env := by rfl) (hpl : (backTo pos (starEach [e2] X.env)).any (·.1) = false := by rfl) :
    PI X (.Tuple elts kk tpos) (.Call (.Name "zip" p) [e, e2] [] pos) (iZipS K ta) := h ▸ pi_zipS hg hm ha hs hpl
theorem k_bm {o e : Expr} {es : List Expr} {to : TE} {t : TA} {name : Str} {apos cpos : Pos} {T id : String} {r : V → List V → Hp → VK → Prop} (h : X.K = K)
    (pa : PlainAttrs T) (slot : Slot T name id) (hty : typeOf (.builtin id) = pure (.type "method_descriptor")) (hm : MtR X id r) (ho : PE X o to) (ha : PA X (e :: es) t)
    (hbase : attributeBase o name X.env (eval o X.env) = eval o X.env := by rfl)
    (hfew : ((backTo cpos (starEach (e :: es) X.env)).all (fun x => !x.1) && (backToKw cpos (keywordEach [] X.env)).all (fun x => x.1.isSome)
      && decide ((e :: es).length + ([] : List Keyword).length + (if ([] : List Keyword).isEmpty then 0 else 1) < 30)) = true := by rfl)
    (hline : (apos.endLine == cpos.line) = true := by rfl) (hs : starEach (e :: es) X.env = (false, eval e X.env) :: starEach es X.env := by rfl) (hplain : (backTo cpos (starEach es X.env)).any (·.1) = false := by rfl) :
    PE X (.Call (.Attribute o name apos) (e :: es) [] cpos) (tBM K T r to t) := h ▸ pe_bm pa slot hty hm ho ha hbase hfew hline hs hplain
end
end L2

namespace L2
open PySem PySem.Spec PyProof.Rows
/-! ### dicts with texts as keys: read, written, made -/
theorem u1 {n : Nat} (h : n + 64 < cLine) : n + 1 < cLine := by omega
section
variable {K : PySem.W.Frag} {σ : St} {H : Hp} {v : V} {Q : VK} {td ty tv : TE} {a : Addr} {kvs kvs' : List (Key × V)} {s : Str}
theorem w_dget (q : td σ H fun x H1 => ty σ H1 fun y H2 => ∃ a v, x = .ref a ∧ DGet H2 a y (some v) ∧ Q v H2) : tDGet td ty σ H Q := q
theorem w_dgetAt (h : H a = some (.dK kvs)) (l : valV kvs (.inr s) = some v) {F : V → Prop} (q : F v) : ∃ a' v', V.ref a = .ref a' ∧ DGet H a' (.str s) (some v') ∧ F v' := ⟨a, v, rfl, by rw [← l]; exact DGet.k (k := .inr s) h, q⟩
theorem w_dput {nx b' c' : St → Hp → Prop} {rt : VK} (q : tv σ H fun v H1 => td σ H1 fun x H2 => ty σ H2 fun y H3 => ∃ a H4, x = .ref a ∧ DPut H3 a y v H4 ∧ nx σ H4) : sDPut td ty tv ⟨nx, rt, b', c'⟩ σ H := q
theorem w_dputAt (h : H a = some (.dK kvs)) (hl : kvs.length < 1000) (e : putK kvs (.inr s) v = kvs') {F : Hp → Prop} (q : F (upd H a (.dK kvs'))) : ∃ a' H4, V.ref a = .ref a' ∧ DPut H a' (.str s) v H4 ∧ F H4 :=
  ⟨a, _, rfl, DPut.k (k := .inr s) h (by rw [sizeLine_eq]; omega), by rw [e]; exact q⟩
theorem w_disp {trs : List (TE × TE)} (q : ∀ p, H p = none → tPairs trs σ (upd H p (.dK [])) fun ps H2 => H2 p = some (.dK []) ∧ ∃ kvs : List (Key × V), ps = kvs.map (fun kv => (kV kv.1, kv.2)) ∧ kvs.length ≤ 15 ∧ Q (.ref p) (upd H2 p (.dK (mergeK [] kvs)))) : tDisp trs σ H Q := q
theorem w_pair0 {Qp : List (V × V) → Hp → Prop} (q : Qp [] H) : tPairs [] σ H Qp := q
theorem w_pair1 {Qp : List (V × V) → Hp → Prop} {tk tv : TE} {r : List (TE × TE)} (q : tk σ H fun x H1 => tv σ H1 fun y H2 => tPairs r σ H2 fun ps H3 => Qp ((x, y) :: ps) H3) : tPairs ((tk, tv) :: r) σ H Qp := q
end
/-- what stands elsewhere than at t stays -/
def Fr (t : Addr) (H H' : Hp) : Prop := ∀ b o, b ≠ t → H b = some o → H' b = some o
theorem Fr.refl (t : Addr) (H : Hp) : Fr t H H := fun _ _ _ e => e
theorem Fr.trans {t : Addr} {H H' H'' : Hp} (h : Fr t H H') (h' : Fr t H' H'') : Fr t H H'' := fun b o n e => h' b o n (h b o n e)
theorem Fr.upd {t : Addr} {H H' : Hp} (h : Fr t H H') (o : HO) : Fr t H (upd H' t o) := fun b u n e => by
  rw [upd_ne n]
  exact h b u n e
theorem Fr.same {t : Addr} {H H' : Hp} (h : Same H H') : Fr t H H' := fun b o _ e => h b o e
theorem Fr.sq {t : Addr} {H H' : Hp} {b : Bool} {K : PySem.W.Frag} {a : Addr} {xs : List V} (f : Fr t H H') (ht : ∃ kvs, H t = some (.dK kvs)) (h : Sq b K H a xs) : Sq b K H' a xs := by
  obtain ⟨kvs, ht⟩ := ht
  cases b with
  | true =>
    have h : SqL K H a xs := h
    rcases h with (h | ⟨o, h⟩) | h
    · exact .inl (.inl (f _ _ (fun e => by rw [e, ht] at h; cases h) h))
    · exact .inl (.inr ⟨o, f _ _ (fun e => by rw [e, ht] at h; cases h) h⟩)
    · exact .inr h
  | false =>
    have h : SqT K H a xs := h
    rcases h with (h | ⟨o, h⟩) | h
    · exact .inl (.inl (f _ _ (fun e => by rw [e, ht] at h; cases h) h))
    · exact .inl (.inr ⟨o, f _ _ (fun e => by rw [e, ht] at h; cases h) h⟩)
    · exact .inr h
/-- the tape: its cells, place, great number, how many left, seed, turn -/
def tapeF (l : Addr) (at_ gr le se tu : Int) : List (Key × V) := [(.inr "cells", .ref l), (.inr "at", .int at_), (.inr "great", .int gr), (.inr "left", .int le), (.inr "seed", .int se), (.inr "turn", .int tu)]
def IsTape (H : Hp) (t l : Addr) : Prop := ∃ (cs : List Int) (at_ gr le se tu : Int), H t = some (.dK (tapeF l at_ gr le se tu)) ∧ H l = some (.lst (cs.map V.int)) ∧ 0 ≤ at_
theorem IsTape.same {H H' : Hp} {t l : Addr} (s : Same H H') (h : IsTape H t l) : IsTape H' t l := by
  obtain ⟨cs, a, b, c, d, e, h1, h2, h3⟩ := h
  exact ⟨cs, a, b, c, d, e, s _ _ h1, s _ _ h2, h3⟩
theorem IsTape.upd {H : Hp} {t l D : Addr} {o : HO} (h1 : D ≠ t) (h2 : D ≠ l) (h : IsTape H t l) : IsTape (upd H D o) t l := by
  obtain ⟨cs, a, b, c, d, e, g1, g2, g3⟩ := h
  exact ⟨cs, a, b, c, d, e, (upd_ne (Ne.symm h1)).trans g1, (upd_ne (Ne.symm h2)).trans g2, g3⟩
theorem val_neg {j k : Key} {u : V} {kvs : List (Key × V)} (h : ¬ j = k) : valV ((j, u) :: kvs) k = valV kvs k := valV_neg h
theorem val_pos {k : Key} {u : V} {kvs : List (Key × V)} : valV ((k, u) :: kvs) k = some u := valV_pos rfl
theorem tape_cells {l : Addr} {at_ gr le se tu : Int} : valV (tapeF l at_ gr le se tu) (.inr "cells") = some (.ref l) := val_pos
theorem tape_at {l : Addr} {at_ gr le se tu : Int} : valV (tapeF l at_ gr le se tu) (.inr "at") = some (.int at_) := (val_neg (by decide +kernel)).trans val_pos
theorem tape_great {l : Addr} {at_ gr le se tu : Int} : valV (tapeF l at_ gr le se tu) (.inr "great") = some (.int gr) := (val_neg (by decide +kernel)).trans ((val_neg (by decide +kernel)).trans val_pos)
theorem tape_left {l : Addr} {at_ gr le se tu : Int} : valV (tapeF l at_ gr le se tu) (.inr "left") = some (.int le) := (val_neg (by decide +kernel)).trans ((val_neg (by decide +kernel)).trans ((val_neg (by decide +kernel)).trans val_pos))
theorem tape_seed {l : Addr} {at_ gr le se tu : Int} : valV (tapeF l at_ gr le se tu) (.inr "seed") = some (.int se) := (val_neg (by decide +kernel)).trans ((val_neg (by decide +kernel)).trans ((val_neg (by decide +kernel)).trans ((val_neg (by decide +kernel)).trans val_pos)))
theorem tape_turn {l : Addr} {at_ gr le se tu : Int} : valV (tapeF l at_ gr le se tu) (.inr "turn") = some (.int tu) := (val_neg (by decide +kernel)).trans ((val_neg (by decide +kernel)).trans ((val_neg (by decide +kernel)).trans ((val_neg (by decide +kernel)).trans ((val_neg (by decide +kernel)).trans val_pos))))
/-- a store at a key that is there -/
def replK (kvs : List (Key × V)) (k : Key) (v : V) : List (Key × V) := kvs.map fun kv => if kv.1 = k then (kv.1, v) else kv
theorem putK_repl {kvs : List (Key × V)} {k : Key} {v u : V} (h : valV kvs k = some u) : putK kvs k v = replK kvs k v := by
  unfold putK
  rw [valV_any, h]
  rfl
theorem repl_pos {kvs : List (Key × V)} {k : Key} {v u : V} : replK ((k, u) :: kvs) k v = (k, v) :: replK kvs k v := by
  show (if k = k then _ else _) :: _ = _
  rw [if_pos rfl]; rfl
theorem repl_neg {kvs : List (Key × V)} {k j : Key} {v u : V} (h : ¬ j = k) : replK ((j, u) :: kvs) k v = (j, u) :: replK kvs k v := by
  show (if j = k then _ else _) :: _ = _
  rw [if_neg h]; rfl
theorem tape_setAt {l : Addr} {at_ gr le se tu z : Int} : putK (tapeF l at_ gr le se tu) (.inr "at") (.int z) = tapeF l z gr le se tu := by
  rw [putK_repl tape_at]; unfold tapeF
  rw [repl_neg (by decide +kernel), repl_pos, repl_neg (by decide +kernel), repl_neg (by decide +kernel), repl_neg (by decide +kernel), repl_neg (by decide +kernel)]; rfl
theorem tape_setGreat {l : Addr} {at_ gr le se tu z : Int} : putK (tapeF l at_ gr le se tu) (.inr "great") (.int z) = tapeF l at_ z le se tu := by
  rw [putK_repl tape_great]; unfold tapeF
  rw [repl_neg (by decide +kernel), repl_neg (by decide +kernel), repl_pos, repl_neg (by decide +kernel), repl_neg (by decide +kernel), repl_neg (by decide +kernel)]; rfl
theorem tape_setLeft {l : Addr} {at_ gr le se tu z : Int} : putK (tapeF l at_ gr le se tu) (.inr "left") (.int z) = tapeF l at_ gr z se tu := by
  rw [putK_repl tape_left]; unfold tapeF
  rw [repl_neg (by decide +kernel), repl_neg (by decide +kernel), repl_neg (by decide +kernel), repl_pos, repl_neg (by decide +kernel), repl_neg (by decide +kernel)]; rfl
theorem tape_setSeed {l : Addr} {at_ gr le se tu z : Int} : putK (tapeF l at_ gr le se tu) (.inr "seed") (.int z) = tapeF l at_ gr le z tu := by
  rw [putK_repl tape_seed]; unfold tapeF
  rw [repl_neg (by decide +kernel), repl_neg (by decide +kernel), repl_neg (by decide +kernel), repl_neg (by decide +kernel), repl_pos, repl_neg (by decide +kernel)]; rfl
theorem tape_setTurn {l : Addr} {at_ gr le se tu z : Int} : putK (tapeF l at_ gr le se tu) (.inr "turn") (.int z) = tapeF l at_ gr le se z := by
  rw [putK_repl tape_turn]; unfold tapeF
  rw [repl_neg (by decide +kernel), repl_neg (by decide +kernel), repl_neg (by decide +kernel), repl_neg (by decide +kernel), repl_neg (by decide +kernel), repl_pos]; rfl
theorem tape_len {l : Addr} {at_ gr le se tu : Int} : (tapeF l at_ gr le se tu).length < 1000 := by show 6 < 1000; omega
end L2

namespace L2
open PySem PySem.Spec PyProof.Rows
/-! ### o[i] += e in lists; comprehensions with any state, with or without a test -/
def rGetL : V → V → Hp → VK → Prop := fun o i H Q => ∃ p xs k x, o = .ref p ∧ i = .int k ∧ 0 ≤ k ∧ H p = some (.lst xs) ∧ xs[k.toNat]? = some x ∧ Q x H
theorem get_list {X : Cx} : PGet X rGetL := by
  intro pins s σ H o i ov iv Q I ro ri h
  obtain ⟨p, xs, k, x, rfl, rfl, h0, hp, hx, q⟩ := h
  cases ro
  obtain ⟨t, rfl⟩ := ri
  obtain ⟨its, r, pl, hz⟩ := I.list (SqL.of hp)
  obtain ⟨w, ew, rw'⟩ := r.get hx
  have h1 := (List.getElem?_eq_some_iff.mp hx).1
  rw [sizeLine_eq] at hz
  exact wpAny_getItem_list pl.isList h0 (by omega) (by simpa using ew) ⟨x, H, I, rw', q⟩
section
variable {K : PySem.W.Frag} {σ : St} {H : Hp} {tt : TT} {te : TE} {g : TG} {vs : List Nat} {Q : VK}
theorem w_augS {to ti te : TE} {tget : V → V → Hp → VK → Prop} {tip : TIp} {tset : TSet} {nx b' c' : St → Hp → Prop} {rt : VK} (q : to σ H fun o H1 => ti σ H1 fun i H2 => tget o i H2 fun x H3 => te σ H3 fun y H4 => tip x y H4 fun z H5 => tset o i z H5 fun H6 => nx σ H6) : tAugS to ti te tget tip tset ⟨nx, rt, b', c'⟩ σ H := q
theorem w_prop {C : Addr} {sp : Sp} {dvs : List V} {E : XK} {ta : TE} (q : ta σ H fun x H1 => ∃ a dx fs, x = .ref a ∧ H1 a = some (.ins C dx fs) ∧ sp (.ref a :: dvs) H1 Q E) : tProp C sp dvs E ta σ H Q := q
theorem w_propAt {p C dx : Addr} {fs : List (Str × V)} {F : Addr → Prop} (h : H p = some (.ins C dx fs)) (q : F p) : ∃ a dx fs, V.ref p = .ref a ∧ H a = some (.ins C dx fs) ∧ F a := ⟨p, dx, fs, rfl, h, q⟩
theorem w_lstRg {t : L2.St → Hp → (Int → Int → Hp → Prop) → Prop} (q : t σ H fun a b H1 => RgOk a b ∧ ∀ q, H1 q = none → Q (.ref q) (upd H1 q (.lst (rgV a b)))) : tLstRg t σ H Q := q
theorem w_tupRg {t : L2.St → Hp → (Int → Int → Hp → Prop) → Prop} (q : t σ H fun a b H1 => RgOk a b ∧ ∀ q, H1 q = none → Q (.ref q) (upd H1 q (.tup (rgV a b)))) : tTupRg t σ H Q := q
theorem w_rg1 {ta : TE} {QR : Int → Int → Hp → Prop} (q : ta σ H fun x H1 => ∃ n, x = .int n ∧ QR 0 n H1) : tRg1 ta σ H QR := q
theorem w_rg2 {ta tb : TE} {QR : Int → Int → Hp → Prop} (q : ta σ H fun x H1 => tb σ H1 fun y H2 => ∃ i j, x = .int i ∧ y = .int j ∧ QR i j H2) : tRg2 ta tb σ H QR := q
theorem w_getI {p : Addr} {ns : List Int} {k : Int} (h : H p = some (.lst (ns.map V.int))) (h0 : 0 ≤ k) (h1 : k < ns.length) (q : Q (.int (nth ns k)) H) : rGetL (.ref p) (.int k) H Q := by
  refine ⟨p, _, k, .int (nth ns k), rfl, rfl, h0, h, ?_, q⟩
  have e : k = ((k.toNat : Nat) : Int) := (Int.toNat_of_nonneg h0).symm
  rw [vec_get (ns := ns) (i := k.toNat) (by omega), ← e]
theorem l_compG {J : It} {n : Nat} {G : Hp → Prop} {Y : Nat → Hp → V → Hp → Prop} (w : Walk J n G Y) (hz : n < sizeLine) (Sv : Addr → Nat → List V → Hp → Prop) (h0 : ∀ D, H D = none → Sv D 0 [] (upd H D (.lst []))) (hG : ∀ D i acc H', Sv D i acc H' → G H')
    (hs : ∀ i x H1 H2 D acc (NT : VK) (NF : Hp → Prop), i < n → H D = none → Sv D i acc H1 → H1 D = some (.lst acc) → acc.length ≤ i → Y i H1 x H2 → (∀ y H5, H5 D = some (.lst acc) → Sv D (i + 1) (acc ++ [y]) (upd H5 D (.lst (acc ++ [y]))) → NT y H5) →
      (∀ H4, H4 D = some (.lst acc) → Sv D (i + 1) acc H4 → NF H4) → g x (wipe σ vs) H2 fun σ2 H3 => wipe σ2 vs = wipe σ vs ∧ tt σ2 H3 fun b H4 => if b = true then te σ2 H4 NT else NF H4)
    (k : ∀ D H' ys, H D = none → Sv D n ys H' → H' D = some (.lst ys) → ys.length ≤ n → Q (.ref D) H') : CompOk J g tt te vs σ H Q := by
  intro D hD
  refine lc_it w (fun i H' => ∃ acc, H' D = some (.lst acc) ∧ acc.length ≤ i ∧ Sv D i acc H') ⟨[], upd_same, Nat.le_refl _, h0 D hD⟩ (fun i H' _ ⟨acc, _, _, h⟩ => hG D i acc H' h) ?_ ?_
  · rintro i x H1 H2 hi ⟨acc, e, hl, st⟩ hy
    exact hs i x H1 H2 D acc _ _ hi hD st e hl hy (fun y H5 e5 s5 => ⟨acc, e5, Nat.lt_of_le_of_lt hl (Nat.lt_trans hi hz), acc ++ [y], upd_same, by rw [List.length_append, List.length_singleton]; omega, s5⟩) (fun H4 e4 s4 => ⟨acc, e4, by omega, s4⟩)
  · rintro H' ⟨acc, e, hl, st⟩
    exact k D H' acc hD st e hl
/-- for .. in range(n), of any state -/
theorem l_compGR {n : Int} {j : Nat} (h1 : -(2 ^ 62) ≤ n) (h2 : n < 16000000) (Sv : Addr → Nat → List V → Hp → Prop) (hw : ∀ x : V, wipe ((wipe σ vs).set j (some x)) vs = wipe σ vs) (h0 : ∀ D, H D = none → Sv D 0 [] (upd H D (.lst [])))
    (hs : ∀ (i : Nat) H1 D acc (NT : VK) (NF : Hp → Prop), (i : Int) < n → H D = none → Sv D i acc H1 → H1 D = some (.lst acc) → acc.length ≤ i → (∀ y H5, H5 D = some (.lst acc) → Sv D (i + 1) (acc ++ [y]) (upd H5 D (.lst (acc ++ [y]))) → NT y H5) →
      (∀ H4, H4 D = some (.lst acc) → Sv D (i + 1) acc H4 → NF H4) → tt ((wipe σ vs).set j (some (.int (i : Int)))) H1 fun b H4 => if b = true then te ((wipe σ vs).set j (some (.int (i : Int)))) H4 NT else NF H4)
    (k : ∀ D H' ys, H D = none → Sv D n.toNat ys H' → H' D = some (.lst ys) → ys.length ≤ n.toNat → Q (.ref D) H') :
    ∃ j' : Int, [V.int n] = [.int j'] ∧ -(2 ^ 62) ≤ j' ∧ j' < 2 ^ 62 ∧ CompOk (Itr 0 j'.toNat) (gName j) tt te vs σ H Q := by
  refine ⟨n, rfl, h1, by omega, l_compG (walk_range (lo := 0) (n := n.toNat)) (by rw [sizeLine_eq]; omega) Sv h0 (fun _ _ _ _ _ => trivial) (fun i x H1 H2 D acc NT NF hi hD st e1 hl hy hT hF => ?_) k⟩
  obtain ⟨e, ex⟩ := hy
  subst e ex
  show wipe ((wipe σ vs).set j (some (.int (0 + (i : Int))))) vs = wipe σ vs ∧ tt ((wipe σ vs).set j (some (.int (0 + (i : Int))))) _ fun b H4 => if b = true then te ((wipe σ vs).set j (some (.int (0 + (i : Int))))) H4 NT else NF H4
  rw [Int.zero_add]
  exact ⟨hw _, hs i _ D acc NT NF (by omega) hD st e1 hl hT hF⟩
/-- for .. in a list or a tuple, of any state -/
theorem l_compGS {b : Bool} {a : Addr} {j : Nat} (xs : List V) (hz : xs.length < sizeLine) (Sv : Addr → Nat → List V → Hp → Prop) (hx : Sq b K H a xs) (hw : ∀ x : V, wipe ((wipe σ vs).set j (some x)) vs = wipe σ vs) (h0 : ∀ D, H D = none → Sv D 0 [] (upd H D (.lst []))) (hG : ∀ D i acc H', Sv D i acc H' → Sq b K H' a xs)
    (hs : ∀ (i : Nat) x H1 D acc (NT : VK) (NF : Hp → Prop), i < xs.length → xs[i]? = some x → H D = none → Sv D i acc H1 → H1 D = some (.lst acc) → acc.length ≤ i → (∀ y H5, H5 D = some (.lst acc) → Sv D (i + 1) (acc ++ [y]) (upd H5 D (.lst (acc ++ [y]))) → NT y H5) →
      (∀ H4, H4 D = some (.lst acc) → Sv D (i + 1) acc H4 → NF H4) → tt ((wipe σ vs).set j (some x)) H1 fun b H4 => if b = true then te ((wipe σ vs).set j (some x)) H4 NT else NF H4)
    (k : ∀ D H' ys, H D = none → Sv D xs.length ys H' → H' D = some (.lst ys) → ys.length ≤ xs.length → Q (.ref D) H') :
    ∃ a', V.ref a = .ref a' ∧ ((∃ xs, SqL K H a' xs) ∧ CompOk (Itl K a') (gName j) tt te vs σ H Q ∨ (∃ xs, SqT K H a' xs) ∧ CompOk (Itt K a') (gName j) tt te vs σ H Q) := by
  refine ⟨a, rfl, ?_⟩
  cases b with
  | true =>
    refine .inl ⟨⟨xs, hx⟩, l_compG (walk_list (xs := xs)) hz Sv h0 hG (fun i x H1 H2 D acc NT NF hi hD st e1 hl hy hT hF => ?_) k⟩
    obtain ⟨e, ex⟩ := hy
    subst e
    exact ⟨hw _, hs i x _ D acc NT NF hi ex hD st e1 hl hT hF⟩
  | false =>
    refine .inr ⟨⟨xs, hx⟩, l_compG (walk_tup (xs := xs)) hz Sv h0 hG (fun i x H1 H2 D acc NT NF hi hD st e1 hl hy hT hF => ?_) k⟩
    obtain ⟨e, ex⟩ := hy
    subst e
    exact ⟨hw _, hs i x _ D acc NT NF hi ex hD st e1 hl hT hF⟩
end
end L2

namespace My
open PySem PySem.Spec PyProof.Rows L2
/-! ### sums of the first ones -/
def pre (ns : List Int) (j : Nat) : Int := (ns.take j).sum
theorem pre_zero (ns : List Int) : pre ns 0 = 0 := by simp [pre]
theorem pre_all (ns : List Int) : pre ns ns.length = ns.sum := by simp [pre]
theorem pre_succ {ns : List Int} {j : Nat} (h : j < ns.length) : pre ns (j + 1) = pre ns j + nth ns (j : Nat) := by
  have e : ns[j]? = some (nth ns (j : Nat)) := by
    rw [nth_nat, List.getD_eq_getElem?_getD, List.getElem?_eq_getElem h]
    rfl
  exact sum_take e
theorem pre_le {ns : List Int} (hn : ∀ x ∈ ns, (0 : Int) ≤ x) {i j : Nat} (h : i ≤ j) (hj : j ≤ ns.length) : pre ns i ≤ pre ns j := by
  induction j with
  | zero =>
    have : i = 0 := by omega
    subst this
    exact Int.le_refl _
  | succ j ih =>
    by_cases e : i = j + 1
    · subst e; exact Int.le_refl _
    · have h1 := ih (by omega) (by omega)
      have h2 := pre_succ (ns := ns) (j := j) (by omega)
      have h3 := hn _ (nth_mem (ns := ns) (i := (j : Nat)) (by omega) (by omega))
      omega

/-! ### one step of a reading; the closers -/
local macro_rules | `(tactic| walk_at "same") => `(tactic| first
  | assumption
  | exact Same.refl _
  | (refine Same.trans ?_ (Same.new (by assumption)); walk_at "same")
  | (refine Same.mut ?_ (by assumption); walk_at "same")
  | (refine Same.trans (H1 := _) ?_ (by assumption); walk_at "same"))
local macro_rules | `(tactic| walk_at "at") => `(tactic| first
  | assumption
  | exact upd_same
  | (refine Same.at ?_ (by assumption); walk_at "same"))
local macro_rules | `(tactic| walk_at "sq") => `(tactic| first
  | assumption
  | exact Sq.lst (by walk_at "at")
  | exact Sq.tup (by walk_at "at")
  | (refine Same.sq ?_ (by assumption); walk_at "same"))
local macro_rules | `(tactic| walk_at "lk") => `(tactic| first
  | exact lk_here
  | (refine lk_next (by decide +kernel) ?_; walk_at "lk")
  | exact rfl)
local macro_rules | `(tactic| walk_at "pf") => `(tactic| first
  | exact pf_here
  | (apply pf_next (by decide +kernel); walk_at "pf")
  | exact pf_nil)
local macro_rules | `(tactic| walk_at "num") => `(tactic| first
  | omega
  | assumption
  | (unfold CMul; omega)
  | (unfold CDiv; omega)
  | (unfold CPow; refine ⟨?_, ?_, ?_⟩ <;> first | omega | decide)
  | decide
  | (simp only [List.length_append, List.length_cons, List.length_nil, List.length_map, List.length_range] at *; omega))
local macro_rules | `(tactic| walk_at "vv") => `(tactic| first
  | exact tape_cells
  | exact tape_at
  | exact tape_great
  | exact tape_left
  | exact tape_seed
  | exact tape_turn
  | exact val_pos
  | (refine (val_neg (by decide +kernel)).trans ?_; walk_at "vv"))
local macro_rules | `(tactic| walk_at "pp") => `(tactic| first
  | exact tape_setAt
  | exact tape_setGreat
  | exact tape_setLeft
  | exact tape_setSeed
  | exact tape_setTurn)
local macro_rules | `(tactic| walk_at "dl") => `(tactic| first
  | exact tape_len
  | (show _ < 1000; simp only [List.length_cons, List.length_nil]; omega))
local macro_rules | `(tactic| walk_at "go1") => `(tactic| first
  | with_reducible refine w_var rfl ?_
  | with_reducible refine w_seq ?_
  | with_reducible refine w_asg ?_
  | with_reducible refine w_gName ?_
  | with_reducible refine w_nx ?_
  | with_reducible refine w_c ?_
  | with_reducible refine w_op ?_
  | with_reducible refine w_I0 ?_
  | with_reducible refine w_addI ?_
  | with_reducible refine w_cb ?_
  | with_reducible refine w_aCons ?_
  | with_reducible refine w_aNil ?_
  | with_reducible refine w_int1 ?_
  | with_reducible refine w_int1b ?_
  | ((with_reducible refine w_I ?_ ?_); (· walk_at "num"))
  | with_reducible refine w_test ?_
  | with_reducible refine w_exb ?_
  | with_reducible refine w_exi ?_
  | with_reducible refine w_ifS ?_
  | with_reducible refine w_tru ?_
  | with_reducible refine w_truB ?_
  | with_reducible refine w_eqI ?_
  | with_reducible refine w_neI ?_
  | with_reducible refine iteT ?_
  | with_reducible refine iteF ?_
  | with_reducible refine w_not ?_
  | with_reducible refine w_and ?_
  | with_reducible refine w_or ?_
  | with_reducible refine w_iteNT ?_
  | with_reducible refine w_iteNF ?_
  | with_reducible refine w_rt ?_
  | with_reducible refine w_ret ?_
  | with_reducible refine w_retN ?_
  | with_reducible refine w_next ?_
  | with_reducible refine w_drop ?_
  | with_reducible refine w_augI rfl ?_
  | with_reducible refine w_ipI ?_
  | with_reducible refine w_un ?_
  | with_reducible refine w_rU ?_
  | with_reducible refine w_abs ?_
  | with_reducible refine w_max2 ?_
  | with_reducible refine w_min2 ?_
  | with_reducible refine w_call ?_
  | with_reducible refine w_tB ?_
  | with_reducible refine w_bm ?_
  | ((with_reducible show tyV _ "list" (V.ref _) _ ∧ _); refine w_tyL (by walk_at "sq") ?_)
  | ((with_reducible show rIx _ (V.ref _) (V.int _) _ _); refine w_ixI (by walk_at "sq") (by walk_at "num") (by walk_at "num") ?_)
  | ((with_reducible show rSumS _ [V.ref _] _ _); refine w_sumI (by walk_at "sq") ?_)
  | ((with_reducible show rLenS _ [V.ref _] _ _); refine w_lenI (by walk_at "sq") ?_)
  | ((with_reducible show rLenS _ [V.ref _] _ _); refine w_lenS (by walk_at "sq") ?_)
  | with_reducible refine w_isNn ?_
  | with_reducible refine w_isNi ?_
  | with_reducible refine w_isNb ?_
  | with_reducible refine w_isNs ?_
  | with_reducible refine w_isNr ?_
  | with_reducible refine w_notNn ?_
  | with_reducible refine w_notNi ?_
  | with_reducible refine w_notNb ?_
  | with_reducible refine w_notNs ?_
  | with_reducible refine w_notNr ?_
  | with_reducible refine w_lstD ?_
  | with_reducible refine w_tupD ?_
  | with_reducible refine w_sl ?_
  | with_reducible refine w_noPart ?_
  | with_reducible refine w_part ?_
  | with_reducible refine w_for ?_
  | with_reducible refine w_iRng1 ?_
  | with_reducible refine w_iRng2 ?_
  | with_reducible refine w_iSeq ?_
  | with_reducible refine w_iEnumS ?_
  | with_reducible refine w_andV ?_
  | with_reducible refine w_orV ?_
  | with_reducible refine w_notV ?_
  | with_reducible refine w_ifE ?_
  | with_reducible refine w_brk ?_
  | with_reducible refine w_cont ?_
  | with_reducible refine w_gSub ?_
  | with_reducible refine w_lc ?_
  | with_reducible refine w_iZipS ?_
  | with_reducible refine w_fld ?_
  | ((with_reducible show ∃ a C dx fs v, V.ref _ = V.ref a ∧ _ ∧ Cls _ _ ∧ NoAttr _ _ _ ∧ _ ∧ _); refine w_fldAt (by walk_at "at") (by assumption) (by assumption) (by walk_at "lk") ?_)
  | with_reducible refine w_sfld ?_
  | ((with_reducible show ∃ a C dx fs, V.ref _ = V.ref a ∧ _ ∧ Cls _ _ ∧ NoAttr _ _ _ ∧ _ ∧ _); refine w_sfldAt (by walk_at "at") (by assumption) (by assumption) (by show _ < 1000; simp only [List.length_cons, List.length_nil]; omega) (by walk_at "pf") ?_)
  | with_reducible refine w_meth ?_
  | ((with_reducible show ∃ a dx fs, V.ref _ = V.ref a ∧ _ ∧ _ ∧ _); refine w_methAt (by walk_at "at") (by walk_at "lk") ?_)
  | with_reducible refine w_make ?_
  | with_reducible refine w_chain ?_
  | with_reducible refine w_dget ?_
  | ((with_reducible show ∃ a v, V.ref _ = V.ref a ∧ DGet _ a (V.str _) (some v) ∧ _); refine w_dgetAt (by walk_at "at") (by walk_at "vv") ?_)
  | ((with_reducible show ∃ a H4, V.ref _ = V.ref a ∧ DPut _ a (V.str _) _ H4 ∧ _); refine w_dputAt (by walk_at "at") (by walk_at "dl") (by walk_at "pp") ?_)
  | with_reducible refine w_dput ?_
  | with_reducible refine w_disp ?_
  | with_reducible refine w_prop ?_
  | ((with_reducible show ∃ a dx fs, V.ref _ = V.ref a ∧ _ ∧ _); refine w_propAt (by walk_at "at") ?_)
  | with_reducible refine w_lstRg ?_
  | with_reducible refine w_tupRg ?_
  | with_reducible refine w_rg1 ?_
  | with_reducible refine w_rg2 ?_
  | with_reducible refine w_augS ?_
  | ((with_reducible show rGetL (V.ref _) (V.int _) _ _); refine w_getI (by walk_at "at") (by walk_at "num") (by walk_at "num") ?_)
  | with_reducible refine w_pair0 ?_
  | with_reducible refine w_pair1 ?_
  | with_reducible refine w_bk ?_
  | with_reducible refine w_ct ?_)
local macro_rules | `(tactic| walk_at "go") => `(tactic| repeat walk_at "go1")

def topS (i : Nat) : Stmt := PySem.Challenge.pw_servedalone_k56_fair_choices.main.body.getD i (.Pass ⟨0, 0, 0, 0⟩)
abbrev s_Fair___init__ : Stmt := inClass (topS 1) 0
abbrev s_Fair_tally : Stmt := inClass (topS 1) 1
abbrev s_Fair_is_ahead : Stmt := inClass (topS 1) 2
abbrev s_Fair_choose : Stmt := inClass (topS 1) 3
abbrev s_Fair_plan : Stmt := inClass (topS 1) 4
abbrev s_L_mixed : Stmt := topS 3
abbrev s_L_tape : Stmt := topS 4
abbrev s_L_draw : Stmt := topS 5
abbrev s_L_pick : Stmt := topS 6
abbrev s_L_same : Stmt := topS 7
abbrev s_L_choose : Stmt := topS 8
abbrev s_L_members : Stmt := topS 9
abbrev s_L_fair : Stmt := topS 10
abbrev s_law : Stmt := topS 11
theorem sc_Fair___init__ : FnScope ["self", "weights", "_"] ["self", "weights"] (defScope s_Fair___init__) := ⟨rfl, rfl, rfl, by decide +kernel, rfl, by decide +kernel, by decide +kernel⟩
theorem sc_Fair_tally : FnScope ["self"] ["self"] (defScope s_Fair_tally) := ⟨rfl, rfl, rfl, by decide +kernel, rfl, by decide +kernel, by decide +kernel⟩
theorem sc_Fair_is_ahead : FnScope ["self", "one", "two"] ["self", "one", "two"] (defScope s_Fair_is_ahead) := ⟨rfl, rfl, rfl, by decide +kernel, rfl, by decide +kernel, by decide +kernel⟩
theorem sc_Fair_choose : FnScope ["self", "members", "best", "member"] ["self", "members"] (defScope s_Fair_choose) := ⟨rfl, rfl, rfl, by decide +kernel, rfl, by decide +kernel, by decide +kernel⟩
theorem sc_Fair_plan : FnScope ["self", "members", "budget", "_"] ["self", "members", "budget"] (defScope s_Fair_plan) := ⟨rfl, rfl, rfl, by decide +kernel, rfl, by decide +kernel, by decide +kernel⟩
theorem sc_L_mixed : FnScope ["_law_number", "_law_turn", "_law_first", "_law_second"] ["_law_number", "_law_turn"] (defScope s_L_mixed) := ⟨rfl, rfl, rfl, by decide +kernel, rfl, by decide +kernel, by decide +kernel⟩
theorem sc_L_tape : FnScope ["_law_script"] ["_law_script"] (defScope s_L_tape) := ⟨rfl, rfl, rfl, by decide +kernel, rfl, by decide +kernel, by decide +kernel⟩
theorem sc_L_draw : FnScope ["_law_tape_here", "_law_many", "_law_cell", "_law_digit"] ["_law_tape_here", "_law_many"] (defScope s_L_draw) := ⟨rfl, rfl, rfl, by decide +kernel, rfl, by decide +kernel, by decide +kernel⟩
theorem sc_L_pick : FnScope ["_law_tape_here", "_law_row"] ["_law_tape_here", "_law_row"] (defScope s_L_pick) := ⟨rfl, rfl, rfl, by decide +kernel, rfl, by decide +kernel, by decide +kernel⟩
theorem sc_L_same : FnScope ["_law_actual", "_law_due", "_law_k"] ["_law_actual", "_law_due"] (defScope s_L_same) := ⟨rfl, rfl, rfl, by decide +kernel, rfl, by decide +kernel, by decide +kernel⟩
theorem sc_L_choose : FnScope ["_law_world", "_law_members_here", "_law_best", "_law_m"] ["_law_world", "_law_members_here"] (defScope s_L_choose) := ⟨rfl, rfl, rfl, by decide +kernel, rfl, by decide +kernel, by decide +kernel⟩
theorem sc_L_members : FnScope ["_law_tape_here", "_law_many", "_law_members_here", "_law_m"] ["_law_tape_here", "_law_many"] (defScope s_L_members) := ⟨rfl, rfl, rfl, by decide +kernel, rfl, by decide +kernel, by decide +kernel⟩
theorem sc_L_fair : FnScope ["_law_world", "_law_i", "_law_j"] ["_law_world"] (defScope s_L_fair) := ⟨rfl, rfl, rfl, by decide +kernel, rfl, by decide +kernel, by decide +kernel⟩
theorem sc_law : FnScope ["_law_script", "_law_tape_here", "_law_many", "_law_weights", "_law_handed", "_law_fair_here", "_law_world", "_law_k", "_law_members_here", "_law_passed", "_law_budget", "_law_at", "_law_due", "_law_other", "_law_m"] ["_law_script"] (defScope s_law) := ⟨rfl, rfl, rfl, by decide +kernel, rfl, by decide +kernel, by decide +kernel⟩

structure Txt (K : PySem.W.Frag) (mg : Str → Option Value) : Type where
  z_bool : mg "bool" = none
  z_int : mg "int" = none
  z_isinstance : mg "isinstance" = none
  z_len : mg "len" = none
  z_list : mg "list" = none
  z_min : mg "min" = none
  z_range : mg "range" = none
  z_str : mg "str" = none
  z_tuple : mg "tuple" = none
  c_Fair : Addr
  C_Fair : Cls K c_Fair
  gc_Fair : mg "Fair" = some (.ref c_Fair)
  n_Fair_weights : NoAttr K c_Fair "weights"
  n_Fair_chosen : NoAttr K c_Fair "chosen"
  a_Fair___init__ : Addr
  d_Fair___init__ : FuncData
  F_Fair___init__ : Fun K "__init__" "Fair.__init__" s_Fair___init__ a_Fair___init__ d_Fair___init__
  b_Fair___init__ : Binds K d_Fair___init__ ["self", "weights"] []
  M_Fair : Mk K c_Fair a_Fair___init__
  a_Fair_tally : Addr
  d_Fair_tally : FuncData
  F_Fair_tally : Fun K "tally" "Fair.tally" s_Fair_tally a_Fair_tally d_Fair_tally
  b_Fair_tally : Binds K d_Fair_tally ["self"] []
  p_Fair_tally : Addr
  P_Fair_tally : PropOf K c_Fair "tally" p_Fair_tally a_Fair_tally
  a_Fair_is_ahead : Addr
  d_Fair_is_ahead : FuncData
  F_Fair_is_ahead : Fun K "is_ahead" "Fair.is_ahead" s_Fair_is_ahead a_Fair_is_ahead d_Fair_is_ahead
  b_Fair_is_ahead : Binds K d_Fair_is_ahead ["self", "one", "two"] []
  m_Fair_is_ahead : Meth K c_Fair "is_ahead" a_Fair_is_ahead
  a_Fair_choose : Addr
  d_Fair_choose : FuncData
  F_Fair_choose : Fun K "choose" "Fair.choose" s_Fair_choose a_Fair_choose d_Fair_choose
  b_Fair_choose : Binds K d_Fair_choose ["self", "members"] []
  m_Fair_choose : Meth K c_Fair "choose" a_Fair_choose
  a_Fair_plan : Addr
  d_Fair_plan : FuncData
  F_Fair_plan : Fun K "plan" "Fair.plan" s_Fair_plan a_Fair_plan d_Fair_plan
  b_Fair_plan : Binds K d_Fair_plan ["self", "members", "budget"] []
  m_Fair_plan : Meth K c_Fair "plan" a_Fair_plan
  a_L_mixed : Addr
  d_L_mixed : FuncData
  F_L_mixed : Fun K "_law_mixed" "_law_mixed" s_L_mixed a_L_mixed d_L_mixed
  g_L_mixed : mg "_law_mixed" = some (.ref a_L_mixed)
  b_L_mixed : Binds K d_L_mixed ["_law_number", "_law_turn"] []
  a_L_tape : Addr
  d_L_tape : FuncData
  F_L_tape : Fun K "_law_tape" "_law_tape" s_L_tape a_L_tape d_L_tape
  g_L_tape : mg "_law_tape" = some (.ref a_L_tape)
  b_L_tape : Binds K d_L_tape ["_law_script"] []
  a_L_draw : Addr
  d_L_draw : FuncData
  F_L_draw : Fun K "_law_draw" "_law_draw" s_L_draw a_L_draw d_L_draw
  g_L_draw : mg "_law_draw" = some (.ref a_L_draw)
  b_L_draw : Binds K d_L_draw ["_law_tape_here", "_law_many"] []
  a_L_pick : Addr
  d_L_pick : FuncData
  F_L_pick : Fun K "_law_pick" "_law_pick" s_L_pick a_L_pick d_L_pick
  g_L_pick : mg "_law_pick" = some (.ref a_L_pick)
  b_L_pick : Binds K d_L_pick ["_law_tape_here", "_law_row"] []
  a_L_same : Addr
  d_L_same : FuncData
  F_L_same : Fun K "_law_same" "_law_same" s_L_same a_L_same d_L_same
  g_L_same : mg "_law_same" = some (.ref a_L_same)
  b_L_same : Binds K d_L_same ["_law_actual", "_law_due"] []
  a_L_choose : Addr
  d_L_choose : FuncData
  F_L_choose : Fun K "_law_choose" "_law_choose" s_L_choose a_L_choose d_L_choose
  g_L_choose : mg "_law_choose" = some (.ref a_L_choose)
  b_L_choose : Binds K d_L_choose ["_law_world", "_law_members_here"] []
  a_L_members : Addr
  d_L_members : FuncData
  F_L_members : Fun K "_law_members" "_law_members" s_L_members a_L_members d_L_members
  g_L_members : mg "_law_members" = some (.ref a_L_members)
  b_L_members : Binds K d_L_members ["_law_tape_here", "_law_many"] []
  a_L_fair : Addr
  d_L_fair : FuncData
  F_L_fair : Fun K "_law_fair" "_law_fair" s_L_fair a_L_fair d_L_fair
  g_L_fair : mg "_law_fair" = some (.ref a_L_fair)
  b_L_fair : Binds K d_L_fair ["_law_world"] []
  a_law : Addr
  d_law : FuncData
  F_law : Fun K "law" "law" s_law a_law d_law
  g_law : mg "law" = some (.ref a_law)
  b_law : Binds K d_law ["_law_script"] []

section
variable {P : Program} {w : World} {K : PySem.W.Frag} {mg : Str → Option Value} {base : Heap}
/-! ### the tape: a number drawn -/
def sp_L_mixed (K : PySem.W.Frag) : Sp := fun vs H Q _ => ∃ (n t : Int), vs = [.int n, .int t] ∧ ∀ r : Int, 0 ≤ r → r < 999983 → Q (.int r) H
theorem ok_L_mixed (T : Txt K mg) : FnOk P w K mg base CX0 1 T.a_L_mixed T.d_L_mixed ["_law_number", "_law_turn"] (sp_L_mixed K) := by
  refine T.F_L_mixed.ok sc_L_mixed (fun vs H Q E h => ?_) (fun cdv A outer s H vs Q E hr h => ?_)
  · obtain ⟨_, _, rfl, _⟩ := h
    rfl
  · obtain ⟨n, t, rfl, k⟩ := h
    refine ⟨_, (pss_cons (ps_set (i := 2) sc_L_mixed.nd rfl (Or.inl rfl) (pe_op op_mod (pe_callTy cr_int1 (by rfl) T.z_int (by decide +kernel) (pa_cons (pe_op (k_addG (K := K) rfl) (pe_op (k_addG (K := K) rfl) (pe_op op_mul (pv 0) pe_int) (pe_op op_mul (pv 1) pe_int)) pe_int) pa_nil)) pe_int))
      (pss_cons (ps_set (i := 3) sc_L_mixed.nd rfl (Or.inl rfl) (pe_op op_mod (pe_callTy cr_int1 (by rfl) T.z_int (by decide +kernel) (pa_cons (pe_op (k_addG (K := K) rfl) (pe_op (k_addG (K := K) rfl) (pe_op op_mul (pv 2) pe_int) (pe_op op_fdiv (pv 2) pe_int)) (pe_op op_mul (pv 1) pe_int)) pa_nil)) pe_int))
      (pss_one (ps_ret (pe_op op_mod (pe_callTy cr_int1 (by rfl) T.z_int (by decide +kernel) (pa_cons (pe_op (k_addG (K := K) rfl) (pe_op op_mul (pv 3) (pv 3)) (pe_op op_fdiv (pv 2) pe_int)) pa_nil)) pe_int))))), ?_⟩
    refine go_start (σ' := [some (.int n), some (.int t), none, none]) rfl ?_
    try dsimp only [cxOf, Cx.nox, Cx.wish]
    walk_at "go"
    exact k _ (Int.emod_nonneg _ (by decide)) (Int.emod_lt_of_pos _ (by decide))
def sp_L_tape (K : PySem.W.Frag) : Sp := fun vs H Q _ => ∃ (a : Addr) (ns : List Int), vs = [.ref a] ∧ Sq true K H a (ns.map V.int) ∧ ∀ t l H', H t = none → H l = none → Same H H' → IsTape H' t l → Q (.ref t) H'
theorem ok_L_tape (T : Txt K mg) : FnOk P w K mg base CX0 1 T.a_L_tape T.d_L_tape ["_law_script"] (sp_L_tape K) := by
  refine T.F_L_tape.ok sc_L_tape (fun vs H Q E h => ?_) (fun cdv A outer s H vs Q E hr h => ?_)
  · obtain ⟨_, _, rfl, _⟩ := h
    rfl
  · obtain ⟨a, ns, rfl, hS, k⟩ := h
    refine ⟨_, (pss_one (ps_ret (pe_disp (pps_cons pe_str (pe_callTy (k_listS (K := K) rfl) (by rfl) T.z_list (by decide +kernel) (pa_cons (pv 0) pa_nil)) (pps_cons pe_str pe_int (pps_cons pe_str pe_int (pps_cons pe_str pe_int (pps_cons pe_str pe_int (pps_cons pe_str pe_int pps_nil)))))) rfl rfl (by simp) (by decide)))), ?_⟩
    refine go_start (σ' := [some (.ref a)]) rfl ?_
    try dsimp only [cxOf, Cx.nox, Cx.wish]
    walk_at "go"
    intro t ht
    have s1 := Same.new (o := .dK []) ht
    walk_at "go"
    refine w_listS (b := true) (s1.sq hS) fun l hl => ?_
    have hlt : t ≠ l := ne_of_none upd_same hl
    walk_at "go"
    refine ⟨(upd_ne hlt).trans upd_same, [(.inr "cells", .ref l), (.inr "at", .int 0), (.inr "great", .int 0), (.inr "left", .int 0), (.inr "seed", .int 7), (.inr "turn", .int 0)], rfl, by show 6 ≤ 15; omega, ?_⟩
    walk_at "go"
    have e : mergeK [] [(.inr "cells", .ref l), (.inr "at", .int 0), (.inr "great", .int 0), (.inr "left", .int 0), (.inr "seed", .int 7), (.inr "turn", .int 0)] = tapeF l 0 0 0 7 0 := by kernel_rfl
    rw [e]
    have hl0 : H l = none := by
      cases e : H l with
      | none => rfl
      | some u => rw [s1 _ _ e] at hl; cases hl
    refine k t l _ ht hl0 (Same.mut (s1.trans (Same.new hl)) ht) ⟨ns, 0, 0, 0, 7, 0, upd_same, ?_, by omega⟩
    rw [upd_ne (Ne.symm hlt)]
    exact upd_same
/-- the cells' list stays, and all but the tape -/
def Fq (l : Addr) (cs : List Int) (t : Addr) (H H' : Hp) : Prop := H' l = some (.lst (cs.map V.int)) ∧ Fr t H H'
theorem Fq.up {l : Addr} {cs : List Int} {t : Addr} {H H' : Hp} {o : HO} (h : l ≠ t) (f : Fq l cs t H H') : Fq l cs t H (upd H' t o) := ⟨(upd_ne h).trans f.1, f.2.upd o⟩
def TapeAt (l : Addr) (cs : List Int) (t : Addr) (H H' : Hp) : Prop := ∃ at_ gr le se tu : Int, H' t = some (.dK (tapeF l at_ gr le se tu)) ∧ 0 ≤ at_ ∧ Fq l cs t H H'
def sp_L_draw (K : PySem.W.Frag) : Sp := fun vs H Q _ => ∃ (t l : Addr) (m : Int), vs = [.ref t, .int m] ∧ IsTape H t l ∧ 0 < m ∧ ∀ (r : Int) H', 0 ≤ r → r < m → Fr t H H' → IsTape H' t l → Q (.int r) H'
theorem ok_L_draw (T : Txt K mg) : FnOk P w K mg base CX0 2 T.a_L_draw T.d_L_draw ["_law_tape_here", "_law_many"] (sp_L_draw K) := by
  refine T.F_L_draw.ok sc_L_draw (fun vs H Q E h => ?_) (fun cdv A outer s H vs Q E hr h => ?_)
  · obtain ⟨_, _, _, rfl, _⟩ := h
    rfl
  · obtain ⟨t, l, m, rfl, ⟨cs, at0, gr0, le0, se0, tu0, ht0, hl0, hat0⟩, hm, k⟩ := h
    have hlt : l ≠ t := fun e => by rw [e, ht0] at hl0; cases hl0
    have fin : ∀ (z : Int) H', TapeAt l cs t H H' → Q (.int (z % m)) H' := fun z H' ⟨at_, gr, le, se, tu, h1, h2, h3, h4⟩ => k _ H' (Int.emod_nonneg _ (by omega)) (Int.emod_lt_of_pos _ hm) h4 ⟨cs, at_, gr, le, se, tu, h1, h3, h2⟩
    have q0 : Fq l cs t H H := ⟨hl0, Fr.refl _ _⟩
    refine ⟨_, (pss_cons (ps_dput (u1 hr.units) (pv 0) pe_str (pe_op (k_addG (K := K) rfl) (pe_dget (u1 hr.units) (pv 0) pe_str (fun _ _ => rfl)) pe_int) rfl)
      (Evl.pss_cut (ps_if (PW.pt (pw_and (pt_cmpR (k_eqG (K := K) rfl hr.units) (pe_dget (u1 hr.units) (pv 0) pe_str (fun _ _ => rfl)) pe_int (nomark _)) (pw_and1 (pt_cmpR op_lt (pe_dget (u1 hr.units) (pv 0) pe_str (fun _ _ => rfl)) (pe_callB (k_lenS (K := K) rfl) (by rfl) T.z_len (by decide +kernel) (pa_cons (pe_dget (u1 hr.units) (pv 0) pe_str (fun _ _ => rfl)) pa_nil)) (nomark _))))) (pss_cons (ps_set (i := 2) sc_L_draw.nd rfl (Or.inl rfl) (pe_ix (k_ix (K := K) rfl) (pe_dget (u1 hr.units) (pv 0) pe_str (fun _ _ => rfl)) (pe_dget (u1 hr.units) (pv 0) pe_str (fun _ _ => rfl)) (fun _ _ => rfl)))
      (pss_cons (ps_dput (u1 hr.units) (pv 0) pe_str (pe_op (k_addG (K := K) rfl) (pe_dget (u1 hr.units) (pv 0) pe_str (fun _ _ => rfl)) pe_int) rfl)
      (pss_cons (ps_dput (u1 hr.units) (pv 0) pe_str (pe_call (ok_L_mixed T) (hr.mono (by decide)) (by rfl) T.g_L_mixed T.F_L_mixed.kp T.b_L_mixed .nil pass0 (pa_cons (pe_op (k_addG (K := K) rfl) (pe_dget (u1 hr.units) (pv 0) pe_str (fun _ _ => rfl)) (pv 2)) (pa_cons (pe_dget (u1 hr.units) (pv 0) pe_str (fun _ _ => rfl)) pa_nil))) rfl)
      (pss_cons (ps_dput (u1 hr.units) (pv 0) pe_str pe_int rfl)
      (pss_one (ps_if (pt_cmpR op_ge (pv 2) (pe_op op_pow pe_int pe_int) (nomark _)) (pss_cons (ps_dput (u1 hr.units) (pv 0) pe_str (pv 2) rfl)
      (pss_one (ps_dput (u1 hr.units) (pv 0) pe_str pe_int rfl))) pss_nil)))))) pss_nil)
      (Evl.pss_cut (ps_if (pt_cmpR op_gt (pe_dget (u1 hr.units) (pv 0) pe_str (fun _ _ => rfl)) pe_int (nomark _)) (pss_one (ps_dput (u1 hr.units) (pv 0) pe_str (pe_op op_sub (pe_dget (u1 hr.units) (pv 0) pe_str (fun _ _ => rfl)) pe_int) rfl)) pss_nil)
      (pss_cons (ps_if (pt_cmpR (k_eqG (K := K) rfl hr.units) (pe_dget (u1 hr.units) (pv 0) pe_str (fun _ _ => rfl)) pe_int (nomark _)) (pss_one (ps_ret (pe_op op_mod (pe_callTy cr_int1 (by rfl) T.z_int (by decide +kernel) (pa_cons (pe_call (ok_L_mixed T) (hr.mono (by decide)) (by rfl) T.g_L_mixed T.F_L_mixed.kp T.b_L_mixed .nil pass0 (pa_cons (pe_dget (u1 hr.units) (pv 0) pe_str (fun _ _ => rfl)) (pa_cons (pe_dget (u1 hr.units) (pv 0) pe_str (fun _ _ => rfl)) pa_nil))) pa_nil)) (pv 1)))) pss_nil)
      (pss_cons (ps_set (i := 3) sc_L_draw.nd rfl (Or.inl rfl) (pe_op op_mod (pe_callTy cr_int1 (by rfl) T.z_int (by decide +kernel) (pa_cons (pe_dget (u1 hr.units) (pv 0) pe_str (fun _ _ => rfl)) pa_nil)) pe_int))
      (pss_cons (ps_dput (u1 hr.units) (pv 0) pe_str (pe_op op_fdiv (pe_dget (u1 hr.units) (pv 0) pe_str (fun _ _ => rfl)) pe_int) rfl)
      (Evl.pss_cut (ps_if (PW.pt (pw_or (pt_cmpR (k_eqG (K := K) rfl hr.units) (pe_dget (u1 hr.units) (pv 0) pe_str (fun _ _ => rfl)) pe_int (nomark _)) (pw_or1 (pt_cmpR (k_eqG (K := K) rfl hr.units) (pe_dget (u1 hr.units) (pv 0) pe_str (fun _ _ => rfl)) pe_int (nomark _))))) (pss_cons (ps_dput (u1 hr.units) (pv 0) pe_str pe_int rfl)
      (pss_one (ps_dput (u1 hr.units) (pv 0) pe_str pe_int rfl))) pss_nil)
      (pss_one (ps_ret (pe_op op_mod (pe_callTy cr_int1 (by rfl) T.z_int (by decide +kernel) (pa_cons (pv 3) pa_nil)) (pv 1))))))))))), ?_⟩
    refine go_start (σ' := [some (.ref t), some (.int m), none, none]) rfl ?_
    try dsimp only [cxOf, Cx.nox, Cx.wish]
    walk_at "go"
    have q1 : Fq l cs t H (upd H t (.dK (tapeF l at0 gr0 le0 se0 (tu0 + 1)))) := q0.up hlt
    have t1 : (upd H t (.dK (tapeF l at0 gr0 le0 se0 (tu0 + 1)))) t = some (.dK (tapeF l at0 gr0 le0 se0 (tu0 + 1))) := upd_same
    generalize upd H t (.dK (tapeF l at0 gr0 le0 se0 (tu0 + 1))) = H1 at q1 t1 ⊢
    have c1 := q1.1
    refine w_cut (fun σ H' => ∃ y2, σ = [some (.ref t), some (.int m), y2, none] ∧ TapeAt l cs t H H') ?_ ?_
    · walk_at "go"
      refine w_iteD (fun _ => ?_) (fun _ => ?_)
      · walk_at "go"
        refine w_iteD (fun hc => ?_) (fun _ => ?_)
        · walk_at "go"
          refine ⟨_, _, rfl, fun r hr0 hr1 => ?_⟩
          walk_at "go"
          refine w_iteD (fun _ => ?_) (fun _ => ?_)
          · walk_at "go"
            exact ⟨_, rfl, _, _, _, _, _, upd_same, by omega, (((((q1.up hlt).up hlt).up hlt).up hlt).up hlt)⟩
          · walk_at "go"
            exact ⟨_, rfl, _, _, _, _, _, upd_same, by omega, (((q1.up hlt).up hlt).up hlt)⟩
        · walk_at "go"
          exact ⟨_, rfl, _, _, _, _, _, t1, hat0, q1⟩
      · walk_at "go"
        exact ⟨_, rfl, _, _, _, _, _, t1, hat0, q1⟩
    rintro σ H2 ⟨y2, rfl, at2, gr2, le2, se2, tu2, t2, a2, q2⟩
    have c2 := q2.1
    refine w_cut (fun σ H' => σ = [some (.ref t), some (.int m), y2, none] ∧ TapeAt l cs t H H') ?_ ?_
    · walk_at "go"
      refine w_iteD (fun _ => ?_) (fun _ => ?_)
      · walk_at "go"
        exact ⟨rfl, _, _, _, _, _, upd_same, a2, q2.up hlt⟩
      · walk_at "go"
        exact ⟨rfl, _, _, _, _, _, t2, a2, q2⟩
    rintro σ H3 ⟨rfl, at3, gr3, le3, se3, tu3, t3, a3, q3⟩
    have c3 := q3.1
    walk_at "go"
    refine w_iteD (fun _ => ?_) (fun _ => ?_)
    · walk_at "go"
      refine ⟨_, _, rfl, fun r hr0 hr1 => ?_⟩
      walk_at "go"
      exact fin _ _ ⟨_, _, _, _, _, t3, a3, q3⟩
    · walk_at "go"
      have q4 : Fq l cs t H (upd H3 t (.dK (tapeF l at3 (gr3 / 1009) le3 se3 tu3))) := q3.up hlt
      have t4 : (upd H3 t (.dK (tapeF l at3 (gr3 / 1009) le3 se3 tu3))) t = some (.dK (tapeF l at3 (gr3 / 1009) le3 se3 tu3)) := upd_same
      generalize upd H3 t (.dK (tapeF l at3 (gr3 / 1009) le3 se3 tu3)) = H4 at q4 t4 ⊢
      refine w_cut (fun σ H' => σ = [some (.ref t), some (.int m), y2, some (.int (gr3 % 1009))] ∧ TapeAt l cs t H H') ?_ ?_
      · walk_at "go"
        refine w_iteD (fun _ => ?_) (fun _ => ?_)
        · walk_at "go"
          exact ⟨rfl, _, _, _, _, _, upd_same, a3, (q4.up hlt).up hlt⟩
        · walk_at "go"
          refine w_iteD (fun _ => ?_) (fun _ => ?_)
          · walk_at "go"
            exact ⟨rfl, _, _, _, _, _, upd_same, a3, (q4.up hlt).up hlt⟩
          · walk_at "go"
            exact ⟨rfl, _, _, _, _, _, t4, a3, q4⟩
      rintro σ H5 ⟨rfl, h5⟩
      walk_at "go"
      exact fin _ _ h5
def sp_L_pick (K : PySem.W.Frag) : Sp := fun vs H Q _ => ∃ (t l a : Addr) (b : Bool) (xs : List V), vs = [.ref t, .ref a] ∧ IsTape H t l ∧ Sq b K H a xs ∧ 0 < xs.length ∧ xs.length ≤ 100000 ∧ ∀ x H', x ∈ xs → Fr t H H' → IsTape H' t l → Q x H'
theorem tape_dk {H : Hp} {t l : Addr} (h : IsTape H t l) : ∃ kvs, H t = some (.dK kvs) := by
  obtain ⟨cs, at_, gr, le, se, tu, e, _⟩ := h
  exact ⟨_, e⟩
theorem ok_L_pick (T : Txt K mg) : FnOk P w K mg base CX0 3 T.a_L_pick T.d_L_pick ["_law_tape_here", "_law_row"] (sp_L_pick K) := by
  refine T.F_L_pick.ok sc_L_pick (fun vs H Q E h => ?_) (fun cdv A outer s H vs Q E hr h => ?_)
  · obtain ⟨_, _, _, _, _, rfl, _⟩ := h
    rfl
  · obtain ⟨t, l, a, b, xs, rfl, hT, hS, h0, hz, k⟩ := h
    refine ⟨_, (pss_one (ps_ret (pe_ix (k_ix (K := K) rfl) (pv 1) (pe_call (ok_L_draw T) (hr.mono (by decide)) (by rfl) T.g_L_draw T.F_L_draw.kp T.b_L_draw .nil pass0 (pa_cons (pv 0) (pa_cons (pe_callB (k_lenS (K := K) rfl) (by rfl) T.z_len (by decide +kernel) (pa_cons (pv 1) pa_nil)) pa_nil))) (fun _ _ => rfl)))), ?_⟩
    refine go_start (σ' := [some (.ref t), some (.ref a)]) rfl ?_
    try dsimp only [cxOf, Cx.nox, Cx.wish]
    walk_at "go"
    refine ⟨t, l, _, rfl, hT, by omega, fun r H' hr0 hr1 f hT' => ?_⟩
    walk_at "go"
    obtain ⟨j, hj, rfl⟩ : ∃ j : Nat, j < xs.length ∧ r = (j : Int) := ⟨r.toNat, by omega, by omega⟩
    refine w_ix (f.sq (tape_dk hT) hS) (atI_nat (List.getElem?_eq_getElem hj)) ?_
    walk_at "go"
    exact k _ _ (List.getElem_mem _) f hT'

/-! ### _law_same of tapes' laws: True of the same data -/
def SmB (K : PySem.W.Frag) (H : Hp) : Nat → V → V → Prop
  | 0, x, y => x = y ∧ (x = .non ∨ (∃ b, x = .bl b) ∨ (∃ i, x = .int i) ∨ ∃ s, x = .str s)
  | n + 1, x, y => (x = y ∧ (x = .non ∨ (∃ b, x = .bl b) ∨ (∃ i, x = .int i) ∨ ∃ s, x = .str s)) ∨
    ∃ (a a' : Addr) (xs ys : List V), x = .ref a ∧ y = .ref a' ∧ SqT K H a xs ∧ SqT K H a' ys ∧ xs.length = ys.length ∧ ys.length ≤ 100000 ∧ ∀ (i : Nat) x' y', xs[i]? = some x' → ys[i]? = some y' → SmB K H n x' y'
theorem SmB.int {K : PySem.W.Frag} {H : Hp} {n : Nat} {i : Int} : SmB K H n (.int i) (.int i) := by
  cases n
  · exact ⟨rfl, .inr (.inr (.inl ⟨i, rfl⟩))⟩
  · exact .inl ⟨rfl, .inr (.inr (.inl ⟨i, rfl⟩))⟩
theorem SmB.vec {K : PySem.W.Frag} {H : Hp} {n : Nat} {x y : V} {ns : List Int} (hz : ns.length ≤ 100000) (h1 : RVec false K H x ns) (h2 : RVec false K H y ns) : SmB K H (n + 1) x y := by
  obtain ⟨a, rfl, hx⟩ := h1
  obtain ⟨a', rfl, hy⟩ := h2
  refine .inr ⟨a, a', _, _, rfl, rfl, hx, hy, rfl, by rw [List.length_map]; exact hz, fun i x' y' e1 e2 => ?_⟩
  rw [(vec_at e1).1, (vec_at e2).1]
  exact SmB.int
theorem SmB.seq {K : PySem.W.Frag} {H : Hp} {α : Type} {R S : Rep α} {n : Nat} {x y : V} {ds : List α} (hz : ds.length ≤ 100000) (hRS : ∀ x y d, d ∈ ds → R H x d → S H y d → SmB K H n x y) (h1 : RSeq false K R H x ds) (h2 : RSeq false K S H y ds) : SmB K H (n + 1) x y := by
  obtain ⟨a, xs, rfl, hx, hxl, hxr⟩ := h1
  obtain ⟨a', ys, rfl, hy, hyl, hyr⟩ := h2
  refine .inr ⟨a, a', xs, ys, rfl, rfl, hx, hy, by omega, by omega, fun i x' y' e1 e2 => ?_⟩
  have hi := (List.getElem?_eq_some_iff.mp e1).1
  have hd : ds[i]? = some (ds[i]'(by omega)) := List.getElem?_eq_getElem (by omega)
  exact hRS _ _ _ (List.mem_of_getElem? hd) (hxr i _ _ e1 hd) (hyr i _ _ e2 hd)
def sp_L_same (K : PySem.W.Frag) (n : Nat) : Sp := fun vs H Q _ => ∃ x y : V, vs = [x, y] ∧ SmB K H n x y ∧ Q (.bl true) H
theorem same_step (T : Txt K mg) {n k : Nat} (G : FnOk P w K mg base CX0 k T.a_L_same T.d_L_same ["_law_actual", "_law_due"] (fun vs H Q E => ∃ m, n = m + 1 ∧ sp_L_same K m vs H Q E)) :
    FnOk P w K mg base CX0 (k + 1) T.a_L_same T.d_L_same ["_law_actual", "_law_due"] (sp_L_same K n) := by
  refine T.F_L_same.ok sc_L_same (fun vs H Q E h => ?_) (fun cdv A outer s H vs Q E hr h => ?_)
  · obtain ⟨_, _, rfl, _⟩ := h
    rfl
  · obtain ⟨x, y, rfl, hS, q⟩ := h
    refine ⟨_, (pss_cons (ps_if (k_tru (K := K) rfl (pe_callB (k_isi (K := K) rfl) (by rfl) T.z_isinstance (by decide +kernel) (pa_cons (pv 1) (pa_cons (pe_bltn (v := .ty "tuple") (by rfl) T.z_tuple (by decide +kernel) rfl) pa_nil))) (by intro _; rfl)) (pss_cons (ps_if (PW.pt (pw_or (pt_not (k_tru (K := K) rfl (pe_callB (k_isi (K := K) rfl) (by rfl) T.z_isinstance (by decide +kernel) (pa_cons (pv 0) (pa_cons (pe_bltn (v := .ty "tuple") (by rfl) T.z_tuple (by decide +kernel) rfl) pa_nil))) (by intro _; rfl))) (pw_or1 (pt_cmpR (k_neG (K := K) rfl hr.units) (pe_callB (k_lenS (K := K) rfl) (by rfl) T.z_len (by decide +kernel) (pa_cons (pv 0) pa_nil)) (pe_callB (k_lenS (K := K) rfl) (by rfl) T.z_len (by decide +kernel) (pa_cons (pv 1) pa_nil)) (nomark _))))) (pss_one (ps_ret pe_bl)) pss_nil)
      (pss_cons (ps_for PassesOwn.never rfl (pi_range1 rfl T.z_range (pa_cons (pe_callB (k_lenS (K := K) rfl) (by rfl) T.z_len (by decide +kernel) (pa_cons (pv 1) pa_nil)) pa_nil)) (pg_name (i := 2) sc_L_same.nd rfl (Or.inl rfl))
      (pss_one (ps_if (pt_not (k_tru (K := K) rfl (pe_call G hr (by rfl) T.g_L_same T.F_L_same.kp T.b_L_same .nil pass0 (pa_cons (pe_ix (k_ix (K := K) rfl) (pv 0) (pv 2) (fun _ _ => rfl)) (pa_cons (pe_ix (k_ix (K := K) rfl) (pv 1) (pv 2) (fun _ _ => rfl)) pa_nil))) (by intro _; rfl))) (pss_one (ps_ret pe_bl)) pss_nil)))
      (pss_one (ps_ret pe_bl)))) pss_nil)
      (pss_cons (ps_if (pt_cmpR op_isNN (pv 1) pe_non (nomark _)) (pss_one (ps_ret (pe_cmpR op_isNN (pv 0) pe_non (nomark _)))) pss_nil)
      (pss_cons (ps_if (k_tru (K := K) rfl (pe_callB (k_isi (K := K) rfl) (by rfl) T.z_isinstance (by decide +kernel) (pa_cons (pv 1) (pa_cons (pe_bltn (v := .ty "bool") (by rfl) T.z_bool (by decide +kernel) rfl) pa_nil))) (by intro _; rfl)) (pss_one (ps_ret (pe_and (pe_callB (k_isi (K := K) rfl) (by rfl) T.z_isinstance (by decide +kernel) (pa_cons (pv 0) (pa_cons (pe_bltn (v := .ty "bool") (by rfl) T.z_bool (by decide +kernel) rfl) pa_nil))) (pe_one (pe_cmpR (k_eqG (K := K) rfl hr.units) (pv 0) (pv 1) (nomark _)))))) pss_nil)
      (pss_cons (ps_if (k_tru (K := K) rfl (pe_callB (k_isi (K := K) rfl) (by rfl) T.z_isinstance (by decide +kernel) (pa_cons (pv 1) (pa_cons (pe_bltn (v := .ty "str") (by rfl) T.z_str (by decide +kernel) rfl) pa_nil))) (by intro _; rfl)) (pss_one (ps_ret (pe_and (pe_callB (k_isi (K := K) rfl) (by rfl) T.z_isinstance (by decide +kernel) (pa_cons (pv 0) (pa_cons (pe_bltn (v := .ty "str") (by rfl) T.z_str (by decide +kernel) rfl) pa_nil))) (pe_one (pe_cmpR (k_eqG (K := K) rfl hr.units) (pv 0) (pv 1) (nomark _)))))) pss_nil)
      (pss_one (ps_ret (pe_and (pe_callB (k_isi (K := K) rfl) (by rfl) T.z_isinstance (by decide +kernel) (pa_cons (pv 0) (pa_cons (pe_bltn (v := .ty "int") (by rfl) T.z_int (by decide +kernel) rfl) pa_nil))) (pe_and (pe_not (pe_callB (k_isi (K := K) rfl) (by rfl) T.z_isinstance (by decide +kernel) (pa_cons (pv 0) (pa_cons (pe_bltn (v := .ty "bool") (by rfl) T.z_bool (by decide +kernel) rfl) pa_nil)))) (pe_one (pe_cmpR (k_eqG (K := K) rfl hr.units) (pv 0) (pv 1) (nomark _))))))))))), ?_⟩
    refine go_start (σ' := [some x, some y, none]) rfl ?_
    try dsimp only [cxOf, Cx.nox, Cx.wish]
    have hflat : (x = y ∧ (x = .non ∨ (∃ b, x = .bl b) ∨ (∃ i, x = .int i) ∨ ∃ s, x = .str s)) ∨
        ∃ (m : Nat) (a a' : Addr) (xs ys : List V), n = m + 1 ∧ x = .ref a ∧ y = .ref a' ∧ SqT K H a xs ∧ SqT K H a' ys ∧ xs.length = ys.length ∧ ys.length ≤ 100000 ∧ ∀ (i : Nat) x' y', xs[i]? = some x' → ys[i]? = some y' → SmB K H m x' y' := by
      cases n with
      | zero => exact .inl hS
      | succ m =>
        rcases hS with h | ⟨a, a', xs, ys, h1, h2, h3, h4, h5, hz, h6⟩
        · exact .inl h
        · exact .inr ⟨m, a, a', xs, ys, rfl, h1, h2, h3, h4, h5, hz, h6⟩
    rcases hflat with ⟨rfl, rfl | ⟨b, rfl⟩ | ⟨i, rfl⟩ | ⟨z, rfl⟩⟩ | ⟨m, a, a', xs, ys, rfl, rfl, rfl, hx, hy, hl, hz, hxy⟩
    · walk_at "go"
      refine w_isi (tn := "NoneType") (b := false) (.base .non) (by decide +kernel) ?_
      walk_at "go"
      exact q
    · walk_at "go"
      refine w_isi (tn := "bool") (b := false) (.base (.bl _)) (by decide +kernel) ?_
      walk_at "go"
      refine w_isi (tn := "bool") (b := true) (.base (.bl _)) (by decide +kernel) ?_
      walk_at "go"
      refine w_isi (tn := "bool") (b := true) (.base (.bl _)) (by decide +kernel) ?_
      walk_at "go"
      refine w_eqS rfl ?_
      rw [decide_eq_true rfl]
      exact q
    · walk_at "go"
      refine w_isi (tn := "int") (b := false) (.base (.int _)) (by decide +kernel) ?_
      walk_at "go"
      refine w_isi (tn := "int") (b := false) (.base (.int _)) (by decide +kernel) ?_
      walk_at "go"
      refine w_isi (tn := "int") (b := false) (.base (.int _)) (by decide +kernel) ?_
      walk_at "go"
      refine w_isi (tn := "int") (b := true) (.base (.int _)) (by decide +kernel) ?_
      walk_at "go"
      refine w_isi (tn := "int") (b := false) (.base (.int _)) (by decide +kernel) ?_
      walk_at "go"
      rw [decide_eq_true rfl]
      exact q
    · walk_at "go"
      refine w_isi (tn := "str") (b := false) (.base (.str _)) (by decide +kernel) ?_
      walk_at "go"
      refine w_isi (tn := "str") (b := false) (.base (.str _)) (by decide +kernel) ?_
      walk_at "go"
      refine w_isi (tn := "str") (b := true) (.base (.str _)) (by decide +kernel) ?_
      walk_at "go"
      refine w_isi (tn := "str") (b := true) (.base (.str _)) (by decide +kernel) ?_
      walk_at "go"
      refine w_eqS rfl ?_
      rw [decide_eq_true rfl]
      exact q
    · have hx' : Sq false K H a xs := hx
      have hy' : Sq false K H a' ys := hy
      walk_at "go"
      refine w_isi (tn := "tuple") (b := true) (tyx_tup hy) (by decide +kernel) ?_
      walk_at "go"
      refine w_isi (tn := "tuple") (b := true) (tyx_tup hx) (by decide +kernel) ?_
      walk_at "go"
      refine w_iteN (fun hc => absurd (show ((xs.length : Nat) : Int) = ys.length by rw [hl]) hc) (fun _ => ?_)
      walk_at "go"
      refine l_range (fun i σ H' => ∃ y2, σ = [some (.ref a), some (.ref a'), y2] ∧ H' = H) (by omega) (by omega) ⟨none, rfl, rfl⟩ ?_ ?_
      · rintro i σ H' hi ⟨y2, rfl, rfl⟩
        have hi2 : i < ys.length := by omega
        have ex : xs[i]? = some (xs[i]'(by omega)) := List.getElem?_eq_getElem (by omega)
        have ey : ys[i]? = some (ys[i]'hi2) := List.getElem?_eq_getElem hi2
        walk_at "go"
        refine w_ix hx' (atI_nat ex) ?_
        walk_at "go"
        refine w_ix hy' (atI_nat ey) ?_
        walk_at "go"
        refine ⟨m, rfl, _, _, rfl, hxy i _ _ ex ey, ?_⟩
        walk_at "go"
        exact ⟨_, rfl, rfl⟩
      · rintro σ H' ⟨y2, rfl, rfl⟩
        walk_at "go"
        exact q
theorem ok_L_same_at (T : Txt K mg) : ∀ n : Nat, FnOk P w K mg base CX0 (n + 1) T.a_L_same T.d_L_same ["_law_actual", "_law_due"] (sp_L_same K n)
  | 0 => same_step T (k := 0) ⟨fun vs H Q E h => by obtain ⟨m, e, _⟩ := h; exact absurd e (by omega), fun A outer s H args us vs Q E hr he hb hv h => by obtain ⟨m, e, _⟩ := h; exact absurd e (by omega)⟩
  | n + 1 => same_step T ((ok_L_same_at T n).imp fun vs H Q E h => by
      obtain ⟨m, e, h⟩ := h
      have e2 : m = n := by omega
      subst e2
      exact h)

/-! ### fair choices: the code -/
def ahead (ws cs : List Int) (one two : Int) : Bool := decide ((nth cs one + 1) * nth ws two < (nth cs two + 1) * nth ws one)
def bestOf (ws cs : List Int) (ms : List Int) (b : Int) : Int := ms.foldl (fun b m => if ahead ws cs m b = true then m else b) b
def chosenBy (ws cs : List Int) (ms : List Int) : Int := bestOf ws cs ms (nth ms 0)
def oneMore (cs : List Int) (b : Int) : List Int := cs.set b.toNat (nth cs b + 1)
def FairF (aw ac : Addr) : List (Str × V) := [("weights", .ref aw), ("chosen", .ref ac)]
def IsFair (K : PySem.W.Frag) (C : Addr) (H : Hp) (f ac : Addr) (ws cs : List Int) : Prop := ∃ dx aw, H f = some (.ins C dx (FairF aw ac)) ∧ Sq false K H aw (ws.map V.int) ∧ H ac = some (.lst (cs.map V.int))
structure FairOk (ws cs : List Int) : Prop where
  len : cs.length = ws.length
  small : ws.length ≤ 100
  pos : ∀ x ∈ ws, 1 ≤ x ∧ x ≤ 1000
theorem bestOf_mem {ws cs : List Int} : ∀ (ms : List Int) (b : Int), bestOf ws cs ms b = b ∨ bestOf ws cs ms b ∈ ms
  | [], b => .inl rfl
  | m :: r, b => by
    show bestOf ws cs r (if ahead ws cs m b = true then m else b) = b ∨ bestOf ws cs r (if ahead ws cs m b = true then m else b) ∈ m :: r
    rcases bestOf_mem (ws := ws) (cs := cs) r (if ahead ws cs m b = true then m else b) with h | h
    · rw [h]
      split
      · exact .inr (List.mem_cons_self ..)
      · exact .inl rfl
    · exact .inr (List.mem_cons_of_mem _ h)
def sp_Fair_is_ahead (K : PySem.W.Frag) (C : Addr) : Sp := fun vs H Q _ => ∃ (f ac : Addr) (ws cs : List Int) (a b : Int), vs = [.ref f, .int a, .int b] ∧ IsFair K C H f ac ws cs ∧ FairOk ws cs ∧ 0 ≤ a ∧ a < ws.length ∧ 0 ≤ b ∧ b < ws.length ∧ Q (.bl (ahead ws cs a b)) H
theorem ok_Fair_is_ahead (T : Txt K mg) : FnOk P w K mg base CX0 1 T.a_Fair_is_ahead T.d_Fair_is_ahead ["self", "one", "two"] (sp_Fair_is_ahead K T.c_Fair) := by
  refine T.F_Fair_is_ahead.ok sc_Fair_is_ahead (fun vs H Q E h => ?_) (fun cdv A outer s H vs Q E hr h => ?_)
  · obtain ⟨_, _, _, _, _, _, rfl, _⟩ := h
    rfl
  · obtain ⟨f, ac, ws, cs, a, b, rfl, ⟨dx, aw, h0, hw, hc⟩, ok, a0, a1, b0, b1, k⟩ := h
    unfold FairF at h0
    have cF := T.C_Fair
    have n1 := T.n_Fair_weights
    have n2 := T.n_Fair_chosen
    have hl := ok.len
    have hwa := ok.pos _ (nth_mem (ns := ws) (i := a) a0 a1)
    have hwb := ok.pos _ (nth_mem (ns := ws) (i := b) b0 b1)
    refine ⟨_, (pss_one (ps_ret (pe_cmpR op_lt (pe_op op_mul (pe_op (k_addG (K := K) rfl) (pe_ix (k_ix (K := K) rfl) (k_fld (K := K) rfl (pv 0) rfl) (pv 1) (fun _ _ => rfl)) pe_int) (pe_ix (k_ix (K := K) rfl) (k_fld (K := K) rfl (pv 0) rfl) (pv 2) (fun _ _ => rfl))) (pe_op op_mul (pe_op (k_addG (K := K) rfl) (pe_ix (k_ix (K := K) rfl) (k_fld (K := K) rfl (pv 0) rfl) (pv 2) (fun _ _ => rfl)) pe_int) (pe_ix (k_ix (K := K) rfl) (k_fld (K := K) rfl (pv 0) rfl) (pv 1) (fun _ _ => rfl))) (nomark _)))), ?_⟩
    refine go_start (σ' := [some (.ref f), some (.int a), some (.int b)]) rfl ?_
    try dsimp only [cxOf, Cx.nox, Cx.wish]
    walk_at "go"
    exact k
def sp_Fair_choose (K : PySem.W.Frag) (C : Addr) : Sp := fun vs H Q _ => ∃ (f ac mp : Addr) (b : Bool) (ws cs ms : List Int), vs = [.ref f, .ref mp] ∧ IsFair K C H f ac ws cs ∧ FairOk ws cs ∧ Sq b K H mp (ms.map V.int) ∧ 0 < ms.length ∧ (∀ m ∈ ms, 0 ≤ m ∧ m < ws.length) ∧
  Q (.int (chosenBy ws cs ms)) (upd H ac (.lst ((oneMore cs (chosenBy ws cs ms)).map V.int)))
theorem ok_Fair_choose (T : Txt K mg) : FnOk P w K mg base CX0 2 T.a_Fair_choose T.d_Fair_choose ["self", "members"] (sp_Fair_choose K T.c_Fair) := by
  refine T.F_Fair_choose.ok sc_Fair_choose (fun vs H Q E h => ?_) (fun cdv A outer s H vs Q E hr h => ?_)
  · obtain ⟨_, _, _, _, _, _, _, rfl, _⟩ := h
    rfl
  · obtain ⟨f, ac, mp, b, ws, cs, ms, rfl, hF, ok, hm, hm0, hmb, k⟩ := h
    obtain ⟨dx, aw, h0, hw, hc⟩ := id hF
    unfold FairF at h0
    have cF := T.C_Fair
    have n1 := T.n_Fair_weights
    have n2 := T.n_Fair_chosen
    have hl := ok.len
    refine ⟨_, (pss_cons (ps_set (i := 2) sc_Fair_choose.nd rfl (Or.inl rfl) (pe_ix (k_ix (K := K) rfl) (pv 1) pe_int (fun _ _ => rfl)))
      (pss_cons (ps_for PassesOwn.never rfl (k_seqS (K := K) rfl (pv 1)) (pg_name (i := 3) sc_Fair_choose.nd rfl (Or.inl rfl))
      (pss_one (ps_if (k_tru (K := K) rfl (pe_meth (pv 0) T.C_Fair T.m_Fair_is_ahead (ok_Fair_is_ahead T) (hr.mono (by decide)) T.b_Fair_is_ahead .nil pass0 (pa_cons (pv 3) (pa_cons (pv 2) pa_nil))) (by intro _; rfl)) (pss_one (ps_set (i := 2) sc_Fair_choose.nd rfl (Or.inl rfl) (pv 3))) pss_nil)))
      (pss_cons (ps_augS (k_fld (K := K) rfl (pv 0) rfl) (pv 2) get_list pe_int ip_add set_list)
      (pss_one (ps_ret (pv 2)))))), ?_⟩
    refine go_start (σ' := [some (.ref f), some (.ref mp), none, none]) rfl ?_
    try dsimp only [cxOf, Cx.nox, Cx.wish]
    have hb0 := hmb _ (nth_mem (ns := ms) (i := 0) (by omega) (by omega))
    have hbest : ∀ i, 0 ≤ bestOf ws cs (ms.take i) (nth ms 0) ∧ bestOf ws cs (ms.take i) (nth ms 0) < ws.length := fun i => by
      rcases bestOf_mem (ws := ws) (cs := cs) (ms.take i) (nth ms 0) with h | h
      · rw [h]; exact hb0
      · exact hmb _ (List.mem_of_mem_take h)
    walk_at "go"
    refine l_seq (b := b) (ms.map V.int) (fun i σ H' => ∃ y3, σ = [some (.ref f), some (.ref mp), some (.int (bestOf ws cs (ms.take i) (nth ms 0))), y3] ∧ H' = H) hm ⟨none, rfl, rfl⟩ (fun i σ H' _ ⟨_, _, e⟩ => by rw [e]; exact hm) ?_ ?_
    · rintro i x σ H' hi hx ⟨y3, rfl, rfl⟩
      obtain ⟨rfl, hi1⟩ := vec_at hx
      have hmi := hmb _ (nth_mem (ns := ms) (i := ((i : Nat) : Int)) (by omega) (by omega))
      have hbi := hbest i
      have hg : ms[i]? = some (nth ms ((i : Nat) : Int)) := by
        rw [nth_nat, List.getD_eq_getElem?_getD, List.getElem?_eq_getElem hi1]; rfl
      have e : bestOf ws cs (ms.take (i + 1)) (nth ms 0) = if ahead ws cs (nth ms ((i : Nat) : Int)) (bestOf ws cs (ms.take i) (nth ms 0)) = true then nth ms ((i : Nat) : Int) else bestOf ws cs (ms.take i) (nth ms 0) := by
        unfold bestOf
        rw [List.take_add_one, hg, List.foldl_append]; rfl
      generalize bestOf ws cs (ms.take i) (nth ms 0) = bb at hbi e ⊢
      walk_at "go"
      refine ⟨f, ac, ws, cs, _, _, rfl, hF, ok, hmi.1, hmi.2, hbi.1, hbi.2, ?_⟩
      walk_at "go"
      rw [e]
      refine w_iteB (fun hb => ?_) (fun hb => ?_)
      · walk_at "go"
        rw [if_pos hb]
        exact ⟨_, rfl, rfl⟩
      · walk_at "go"
        rw [if_neg (by rw [hb]; decide)]
        exact ⟨_, rfl, rfl⟩
    · rintro σ H' ⟨y3, rfl, rfl⟩
      have hbi := hbest ms.length
      rw [List.take_length] at hbi
      rw [List.length_map, List.take_length]
      change 0 ≤ chosenBy ws cs ms ∧ chosenBy ws cs ms < ws.length at hbi
      show _
      change Q (.int (chosenBy ws cs ms)) (upd H' ac (.lst ((oneMore cs (chosenBy ws cs ms)).map V.int))) at k
      rw [show bestOf ws cs ms (nth ms 0) = chosenBy ws cs ms from rfl]
      unfold oneMore at k
      generalize chosenBy ws cs ms = bb at hbi k ⊢
      walk_at "go"
      refine w_setI hc (by omega) (by omega) ?_
      walk_at "go"
      exact k

theorem line_of1 {n : Nat} (h : n ≤ 1000000) : n < sizeLine := by rw [sizeLine_eq]; omega
theorem w_tupAny {K : PySem.W.Frag} {H : Hp} {Q : VK} {b : Bool} {a : Addr} {ys : List V} (h : Sq b K H a ys) (q : ∀ p H', Same H H' → Sq false K H' p ys → Q (.ref p) H') : rTupS K [.ref a] H Q := by
  cases b with
  | true => exact w_tupL h fun p hp => q _ _ (Same.new hp) (Sq.tup upd_same)
  | false => exact w_tupT h (q _ _ (Same.refl _) h)
def noughts (ws : List Int) : List Int := ws.map fun _ => 0
def sp_Fair___init__ (K : PySem.W.Frag) (C : Addr) : Sp := fun vs H Q _ => ∃ (f dx a : Addr) (b : Bool) (ws : List Int), vs = [.ref f, .ref a] ∧ H f = some (.ins C dx []) ∧ Sq b K H a (ws.map V.int) ∧ ws.length ≤ 100 ∧
  ∀ ac H', Fr f H H' → H ac = none → IsFair K C H' f ac ws (noughts ws) → Q .non H'
theorem ok_Fair___init__ (T : Txt K mg) : FnOk P w K mg base CX0 1 T.a_Fair___init__ T.d_Fair___init__ ["self", "weights"] (sp_Fair___init__ K T.c_Fair) := by
  refine T.F_Fair___init__.ok sc_Fair___init__ (fun vs H Q E h => ?_) (fun cdv A outer s H vs Q E hr h => ?_)
  · obtain ⟨_, _, _, _, _, rfl, _⟩ := h
    rfl
  · obtain ⟨f, dx, a, b, ws, rfl, h0, hS, hz, k⟩ := h
    have cF := T.C_Fair
    have n1 := T.n_Fair_weights
    have n2 := T.n_Fair_chosen
    refine ⟨_, (pss_cons (k_sfld (K := K) rfl (pv 0) (pe_callTy (k_tupS (K := K) rfl) (by rfl) T.z_tuple (by decide +kernel) (pa_cons (pv 1) pa_nil)) rfl)
      (pss_one (k_sfld (K := K) rfl (pv 0) (pe_lc (own := [("_", 2)]) (g := gName 2) (tt := tYes) rfl sc_Fair___init__.nd (k_seqS (K := K) rfl (k_fld (K := K) rfl (pv 0) rfl)) (blkOk_by (own := [("_", 2)]) (by kernel_rfl)) (fun _ _ _ _ _ => (pg_name (i := 2) sc_Fair___init__.nd rfl (by first | exact Or.inl rfl | exact Or.inr rfl))) (fun _ _ _ _ _ => pts_nil) (fun _ _ _ _ _ => pe_int)) rfl))), ?_⟩
    refine go_start (σ' := [some (.ref f), some (.ref a), none]) rfl ?_
    try dsimp only [cxOf, Cx.nox, Cx.wish]
    walk_at "go"
    refine w_tupAny hS fun p H1 s1 hp => ?_
    have h1 := s1 _ _ h0
    walk_at "go"
    have hp2 : Sq false K (upd H1 f (.ins T.c_Fair dx [("weights", .ref p)])) p (ws.map V.int) := by
      obtain ⟨_, e, h⟩ := RTup.upd RVec.tup RVec.mono (o := .ins T.c_Fair dx [("weights", .ref p)]) (NTup.ins h1) ⟨p, rfl, hp⟩
      cases e
      exact h
    have h2 : (upd H1 f (.ins T.c_Fair dx [("weights", .ref p)])) f = some (.ins T.c_Fair dx [("weights", .ref p)]) := upd_same
    have fr : Fr f H (upd H1 f (.ins T.c_Fair dx [("weights", .ref p)])) := (Fr.same s1).upd _
    generalize upd H1 f (.ins T.c_Fair dx [("weights", .ref p)]) = H2 at hp2 h2 fr ⊢
    refine c_ints (ws.map V.int) hp2 (noughts ws) (by unfold noughts; rw [List.length_map, List.length_map]) (line_of1 (by rw [List.length_map]; omega)) (fun _ => rfl) (fun i y H3 N hi hy sm hN2 => ?_) (fun D H3 hD s3 e3 => ?_)
    · walk_at "go"
      have e : nth (noughts ws) ((i : Nat) : Int) = 0 := by
        unfold noughts
        rw [List.length_map] at hi
        rw [nth_nat, List.getD_eq_getElem?_getD, List.getElem?_map, List.getElem?_eq_getElem hi]; rfl
      rw [← e]
      exact hN2 _ (Same.refl _)
    have h3 := s3 _ _ h2
    have hDf : D ≠ f := fun e => by rw [e, h2] at hD; cases hD
    walk_at "go"
    have hac : H D = none := by
      cases e : H D with
      | none => rfl
      | some u => rw [fr _ _ hDf e] at hD; cases hD
    refine k D _ ((fr.trans (Fr.same s3)).upd _) hac ⟨dx, p, upd_same, ?_, (upd_ne hDf).trans e3⟩
    obtain ⟨_, e, h⟩ := RTup.upd RVec.tup RVec.mono (o := .ins T.c_Fair dx (FairF p D)) (NTup.ins h3) ⟨p, rfl, s3.sq hp2⟩
    cases e
    exact h
def sp_Fair_tally (K : PySem.W.Frag) (C : Addr) : Sp := fun vs H Q _ => ∃ (f ac : Addr) (ws cs : List Int), vs = [.ref f] ∧ IsFair K C H f ac ws cs ∧ ∀ t, H t = none → Q (.ref t) (upd H t (.tup (cs.map V.int)))
theorem ok_Fair_tally (T : Txt K mg) : FnOk P w K mg base CX0 1 T.a_Fair_tally T.d_Fair_tally ["self"] (sp_Fair_tally K T.c_Fair) := by
  refine T.F_Fair_tally.ok sc_Fair_tally (fun vs H Q E h => ?_) (fun cdv A outer s H vs Q E hr h => ?_)
  · obtain ⟨_, _, _, _, rfl, _⟩ := h
    rfl
  · obtain ⟨f, ac, ws, cs, rfl, ⟨dx, aw, h0, hw, hc⟩, k⟩ := h
    unfold FairF at h0
    have cF := T.C_Fair
    have n2 := T.n_Fair_chosen
    refine ⟨_, (pss_one (ps_ret (pe_callTy (k_tupS (K := K) rfl) (by rfl) T.z_tuple (by decide +kernel) (pa_cons (k_fld (K := K) rfl (pv 0) rfl) pa_nil)))), ?_⟩
    refine go_start (σ' := [some (.ref f)]) rfl ?_
    try dsimp only [cxOf, Cx.nox, Cx.wish]
    walk_at "go"
    refine w_tupL (Sq.lst hc) fun t ht => ?_
    walk_at "go"
    exact k t ht
/-! ### the law's own tallies -/
def IsWorld (H : Hp) (wd lw lt la : Addr) (ws cs al : List Int) : Prop := H wd = some (.dK [(.inr "weights", .ref lw), (.inr "tally", .ref lt), (.inr "always", .ref la)]) ∧ H lw = some (.lst (ws.map V.int)) ∧ H lt = some (.lst (cs.map V.int)) ∧ H la = some (.lst (al.map V.int))
def sp_L_choose (K : PySem.W.Frag) : Sp := fun vs H Q _ => ∃ (wd lw lt la mp : Addr) (b : Bool) (ws cs al ms : List Int), vs = [.ref wd, .ref mp] ∧ IsWorld H wd lw lt la ws cs al ∧ FairOk ws cs ∧ Sq b K H mp (ms.map V.int) ∧ 0 < ms.length ∧ (∀ m ∈ ms, 0 ≤ m ∧ m < ws.length) ∧
  Q (.int (chosenBy ws cs ms)) (upd H lt (.lst ((oneMore cs (chosenBy ws cs ms)).map V.int)))
theorem ok_L_choose (T : Txt K mg) : FnOk P w K mg base CX0 1 T.a_L_choose T.d_L_choose ["_law_world", "_law_members_here"] (sp_L_choose K) := by
  refine T.F_L_choose.ok sc_L_choose (fun vs H Q E h => ?_) (fun cdv A outer s H vs Q E hr h => ?_)
  · obtain ⟨_, _, _, _, _, _, _, _, _, _, rfl, _⟩ := h
    rfl
  · obtain ⟨wd, lw, lt, la, mp, b, ws, cs, al, ms, rfl, ⟨hW, hw, hc, hal⟩, ok, hm, hm0, hmb, k⟩ := h
    have hl := ok.len
    refine ⟨_, (pss_cons (ps_set (i := 2) sc_L_choose.nd rfl (Or.inl rfl) (pe_ix (k_ix (K := K) rfl) (pv 1) pe_int (fun _ _ => rfl)))
      (pss_cons (ps_for PassesOwn.never rfl (k_seqS (K := K) rfl (pv 1)) (pg_name (i := 3) sc_L_choose.nd rfl (Or.inl rfl))
      (pss_one (ps_if (pt_cmpR op_lt (pe_op op_mul (pe_op (k_addG (K := K) rfl) (pe_ix (k_ix (K := K) rfl) (pe_dget (u1 hr.units) (pv 0) pe_str (fun _ _ => rfl)) (pv 3) (fun _ _ => rfl)) pe_int) (pe_ix (k_ix (K := K) rfl) (pe_dget (u1 hr.units) (pv 0) pe_str (fun _ _ => rfl)) (pv 2) (fun _ _ => rfl))) (pe_op op_mul (pe_op (k_addG (K := K) rfl) (pe_ix (k_ix (K := K) rfl) (pe_dget (u1 hr.units) (pv 0) pe_str (fun _ _ => rfl)) (pv 2) (fun _ _ => rfl)) pe_int) (pe_ix (k_ix (K := K) rfl) (pe_dget (u1 hr.units) (pv 0) pe_str (fun _ _ => rfl)) (pv 3) (fun _ _ => rfl))) (nomark _)) (pss_one (ps_set (i := 2) sc_L_choose.nd rfl (Or.inl rfl) (pv 3))) pss_nil)))
      (pss_cons (ps_asg (pe_op (k_addG (K := K) rfl) (pe_ix (k_ix (K := K) rfl) (pe_dget (u1 hr.units) (pv 0) pe_str (fun _ _ => rfl)) (pv 2) (fun _ _ => rfl)) pe_int) (pg_sub (pe_dget (u1 hr.units) (pv 0) pe_str (fun _ _ => rfl)) (pv 2) set_list))
      (pss_one (ps_ret (pv 2)))))), ?_⟩
    refine go_start (σ' := [some (.ref wd), some (.ref mp), none, none]) rfl ?_
    try dsimp only [cxOf, Cx.nox, Cx.wish]
    have hb0 := hmb _ (nth_mem (ns := ms) (i := 0) (by omega) (by omega))
    have hbest : ∀ i, 0 ≤ bestOf ws cs (ms.take i) (nth ms 0) ∧ bestOf ws cs (ms.take i) (nth ms 0) < ws.length := fun i => by
      rcases bestOf_mem (ws := ws) (cs := cs) (ms.take i) (nth ms 0) with h | h
      · rw [h]; exact hb0
      · exact hmb _ (List.mem_of_mem_take h)
    walk_at "go"
    refine l_seq (b := b) (ms.map V.int) (fun i σ H' => ∃ y3, σ = [some (.ref wd), some (.ref mp), some (.int (bestOf ws cs (ms.take i) (nth ms 0))), y3] ∧ H' = H) hm ⟨none, rfl, rfl⟩ (fun i σ H' _ ⟨_, _, e⟩ => by rw [e]; exact hm) ?_ ?_
    · rintro i x σ H' hi hx ⟨y3, rfl, rfl⟩
      obtain ⟨rfl, hi1⟩ := vec_at hx
      have hmi := hmb _ (nth_mem (ns := ms) (i := ((i : Nat) : Int)) (by omega) (by omega))
      have hbi := hbest i
      have hg : ms[i]? = some (nth ms ((i : Nat) : Int)) := by
        rw [nth_nat, List.getD_eq_getElem?_getD, List.getElem?_eq_getElem hi1]; rfl
      have e : bestOf ws cs (ms.take (i + 1)) (nth ms 0) = if ahead ws cs (nth ms ((i : Nat) : Int)) (bestOf ws cs (ms.take i) (nth ms 0)) = true then nth ms ((i : Nat) : Int) else bestOf ws cs (ms.take i) (nth ms 0) := by
        unfold bestOf
        rw [List.take_add_one, hg, List.foldl_append]; rfl
      generalize bestOf ws cs (ms.take i) (nth ms 0) = bb at hbi e ⊢
      have hwa := ok.pos _ (nth_mem (ns := ws) (i := bb) hbi.1 hbi.2)
      have hwb := ok.pos _ (nth_mem (ns := ws) (i := nth ms ((i : Nat) : Int)) hmi.1 hmi.2)
      walk_at "go"
      rw [e]
      refine w_iteD (fun hb => ?_) (fun hb => ?_)
      · walk_at "go"
        rw [if_pos (show ahead ws cs _ _ = true from decide_eq_true hb)]
        exact ⟨_, rfl, rfl⟩
      · walk_at "go"
        rw [if_neg (show ¬ ahead ws cs _ _ = true from fun h => hb (of_decide_eq_true h))]
        exact ⟨_, rfl, rfl⟩
    · rintro σ H' ⟨y3, rfl, rfl⟩
      have hbi := hbest ms.length
      rw [List.take_length] at hbi
      rw [List.length_map, List.take_length]
      change 0 ≤ chosenBy ws cs ms ∧ chosenBy ws cs ms < ws.length at hbi
      rw [show bestOf ws cs ms (nth ms 0) = chosenBy ws cs ms from rfl]
      unfold oneMore at k
      generalize chosenBy ws cs ms = bb at hbi k ⊢
      walk_at "go"
      refine w_setI hc (by omega) (by omega) ?_
      walk_at "go"
      exact k

theorem w_tyes {σ : L2.St} {H : Hp} {QB : Bool → Hp → Prop} (q : QB true H) : tYes σ H QB := q
theorem Fr.sqN {t : Addr} {H H' : Hp} {b : Bool} {K : PySem.W.Frag} {a : Addr} {xs : List V} (f : Fr t H H') (ht : a ≠ t) (h : Sq b K H a xs) : Sq b K H' a xs := by
  cases b with
  | true =>
    have h : SqL K H a xs := h
    rcases h with (h | ⟨o, h⟩) | h
    · exact .inl (.inl (f _ _ ht h))
    · exact .inl (.inr ⟨o, f _ _ ht h⟩)
    · exact .inr h
  | false =>
    have h : SqT K H a xs := h
    rcases h with (h | ⟨o, h⟩) | h
    · exact .inl (.inl (f _ _ ht h))
    · exact .inl (.inr ⟨o, f _ _ ht h⟩)
    · exact .inr h
theorem Fr.sqL {t : Addr} {H H' : Hp} {K : PySem.W.Frag} {a : Addr} {xs ys : List V} (f : Fr t H H') (ht : H t = some (.lst ys)) (h : Sq false K H a xs) : Sq false K H' a xs := by
  have h : SqT K H a xs := h
  rcases h with (h | ⟨o, h⟩) | h
  · exact .inl (.inl (f _ _ (fun e => by rw [e, ht] at h; cases h) h))
  · exact .inl (.inr ⟨o, f _ _ (fun e => by rw [e, ht] at h; cases h) h⟩)
  · exact .inr h
/-- the tallies behind n choices among the same -/
def afterN (ws ms : List Int) : Nat → List Int → List Int
  | 0, cs => cs
  | n + 1, cs => oneMore (afterN ws ms n cs) (chosenBy ws (afterN ws ms n cs) ms)
def choiceAt (ws ms cs : List Int) (i : Nat) : Int := chosenBy ws (afterN ws ms i cs) ms
theorem oneMore_ok {ws cs : List Int} {b : Int} (ok : FairOk ws cs) : FairOk ws (oneMore cs b) := ⟨by unfold oneMore; rw [List.length_set]; exact ok.len, ok.small, ok.pos⟩
theorem afterN_ok {ws ms cs : List Int} (ok : FairOk ws cs) : ∀ n, FairOk ws (afterN ws ms n cs)
  | 0 => ok
  | n + 1 => oneMore_ok (afterN_ok ok n)
def ROne (K : PySem.W.Frag) : Rep Int := fun H v i => ∃ p, v = .ref p ∧ H p = some (.tup [.int i, .int 1])
def sp_Fair_plan (K : PySem.W.Frag) (C : Addr) : Sp := fun vs H Q _ => ∃ (f ac mp : Addr) (b : Bool) (ws cs ms : List Int) (n : Int), vs = [.ref f, .ref mp, .int n] ∧ IsFair K C H f ac ws cs ∧ FairOk ws cs ∧ Sq b K H mp (ms.map V.int) ∧ mp ≠ ac ∧ 0 < ms.length ∧ (∀ m ∈ ms, 0 ≤ m ∧ m < ws.length) ∧ 0 ≤ n ∧ n ≤ 1000 ∧
  ∀ t ys H', Fr ac H H' → H' ac = some (.lst ((afterN ws ms n.toNat cs).map V.int)) → H' t = some (.tup ys) → ys.length = n.toNat → (∀ (j : Nat) y, ys[j]? = some y → ROne K H' y (choiceAt ws ms cs j)) → Q (.ref t) H'
theorem ok_Fair_plan (T : Txt K mg) : FnOk P w K mg base CX0 3 T.a_Fair_plan T.d_Fair_plan ["self", "members", "budget"] (sp_Fair_plan K T.c_Fair) := by
  refine T.F_Fair_plan.ok sc_Fair_plan (fun vs H Q E h => ?_) (fun cdv A outer s H vs Q E hr h => ?_)
  · obtain ⟨_, _, _, _, _, _, _, _, rfl, _⟩ := h
    rfl
  · obtain ⟨f, ac, mp, b, ws, cs, ms, n, rfl, ⟨dx, aw, h0, hw, hc⟩, ok, hm, hmp, hm0, hmb, hn0, hn1, k⟩ := h
    have cF := T.C_Fair
    refine ⟨_, (pss_one (ps_ret (pe_callTy (k_tupS (K := K) rfl) (by rfl) T.z_tuple (by decide +kernel) (pa_cons (pe_lc (own := [("_", 3)]) (g := gName 3) (tt := tYes) rfl sc_Fair_plan.nd (pi_range1 rfl T.z_range (pa_cons (pv 2) pa_nil)) (blkOk_by (own := [("_", 3)]) (by kernel_rfl)) (fun _ _ _ _ _ => (pg_name (i := 3) sc_Fair_plan.nd rfl (by first | exact Or.inl rfl | exact Or.inr rfl))) (fun _ _ _ _ _ => pts_nil) (fun _ _ _ _ _ => (pe_tup (pa_cons (pe_meth (pv 0) T.C_Fair T.m_Fair_choose (ok_Fair_choose T) (hr.mono (by decide)) T.b_Fair_choose .nil pass0 (pa_cons (pv 1) pa_nil)) (pa_cons pe_int pa_nil))))) pa_nil)))), ?_⟩
    refine go_start (σ' := [some (.ref f), some (.ref mp), some (.int n), none]) rfl ?_
    try dsimp only [cxOf, Cx.nox, Cx.wish]
    walk_at "go"
    refine l_compGR (by omega) (by omega) (fun D i acc H' => D ≠ ac ∧ Fr ac H H' ∧ H' ac = some (.lst ((afterN ws ms i cs).map V.int)) ∧ acc.length = i ∧ ∀ (j : Nat) y, acc[j]? = some y → ROne K H' y (choiceAt ws ms cs j)) (fun _ => rfl)
      (fun D hD => ⟨(ne_of_none hc hD).symm, Fr.same (Same.new hD), (upd_ne (ne_of_none hc hD)).trans hc, rfl, fun j y e => by simp at e⟩) (fun i H1 D acc NT NF hi hD st e1 hl hT hF => ?_) (fun D H' ys hD st e hl => ?_)
    · obtain ⟨hDa, fr, hac, hal, hit⟩ := st
      have hfa : f ≠ ac := fun e => by rw [e, hc] at h0; cases h0
      have h1 := fr _ _ hfa h0
      have hF1 : IsFair K T.c_Fair H1 f ac ws (afterN ws ms i cs) := ⟨dx, aw, h1, Fr.sqL fr hc hw, hac⟩
      have h1' := h1
      unfold FairF at h1'
      refine w_tyes ?_
      walk_at "go"
      refine ⟨f, ac, mp, b, ws, _, ms, rfl, hF1, afterN_ok ok i, Fr.sqN fr hmp hm, hm0, hmb, ?_⟩
      walk_at "go"
      refine ⟨(by show 2 ≤ sizeLine; decide), fun p hp => ?_⟩
      rw [show chosenBy ws (afterN ws ms i cs) ms = choiceAt ws ms cs i from rfl] at hp ⊢
      have e2 : (upd H1 ac (.lst ((oneMore (afterN ws ms i cs) (choiceAt ws ms cs i)).map V.int))) ac = some (.lst ((afterN ws ms (i + 1) cs).map V.int)) := upd_same
      have f2 : Fr ac H1 (upd H1 ac (.lst ((oneMore (afterN ws ms i cs) (choiceAt ws ms cs i)).map V.int))) := (Fr.refl ac H1).upd _
      generalize upd H1 ac (.lst ((oneMore (afterN ws ms i cs) (choiceAt ws ms cs i)).map V.int)) = H2 at hp e2 f2 ⊢
      have hD2 := f2 _ _ hDa e1
      have s3 := Same.new (o := .tup [.int (choiceAt ws ms cs i), .int 1]) hp
      have hp3 : (upd H2 p (.tup [.int (choiceAt ws ms cs i), .int 1])) p = some (.tup [.int (choiceAt ws ms cs i), .int 1]) := upd_same
      generalize upd H2 p (.tup [.int (choiceAt ws ms cs i), .int 1]) = H3 at s3 hp3 ⊢
      have hD3 := s3 _ _ hD2
      refine hT _ _ hD3 ⟨hDa, ?_, (upd_ne (Ne.symm hDa)).trans (s3 _ _ e2), by rw [List.length_append, hal]; rfl, fun j y hj => ?_⟩
      · intro c o hca hco
        have hcD : c ≠ D := ne_of_none hco hD
        rw [upd_ne hcD]
        exact s3 _ _ (f2 _ _ hca (fr _ _ hca hco))
      · by_cases hlt : j < acc.length
        · rw [List.getElem?_append_left hlt] at hj
          obtain ⟨q, e, hq⟩ := hit j y hj
          have hqa : q ≠ ac := fun e => by rw [e, hac] at hq; cases hq
          have hqD : q ≠ D := fun e => by rw [e, e1] at hq; cases hq
          exact ⟨q, e, (upd_ne hqD).trans (s3 _ _ (f2 _ _ hqa hq))⟩
        · have h3 := (List.getElem?_eq_some_iff.mp hj).1
          rw [List.length_append] at h3
          have ej : j = acc.length := by
            have : j < acc.length + 1 := h3
            omega
          subst ej
          rw [List.getElem?_append_right (Nat.le_refl _), Nat.sub_self] at hj
          cases hj
          have hpD : p ≠ D := fun e => by rw [e, hD3] at hp3; cases hp3
          rw [hal]
          exact ⟨p, rfl, (upd_ne hpD).trans hp3⟩
    · obtain ⟨hDa, fr, hac, hal, hit⟩ := st
      walk_at "go"
      refine w_tupL (Sq.lst e) fun t ht => ?_
      walk_at "go"
      have s := Same.new (o := .tup ys) ht
      exact k t ys _ (fr.trans (Fr.same s)) (s _ _ hac) upd_same hal fun j y hj => by
        obtain ⟨q, e, hq⟩ := hit j y hj
        exact ⟨q, e, s _ _ hq⟩

/-! ### _law_members, _law_fair -/
theorem w_eqNil {K : PySem.W.Frag} {H : Hp} {Q : VK} {a p : Addr} {ns : List Int} (h : Sq true K H a (ns.map V.int)) (h' : Sq true K H p []) (q : Q (.bl ns.isEmpty) H) : rEqG K (.ref a) (.ref p) H Q :=
  w_eqD (dp_ints h) (dp_ints (ns := []) h') (shaped_ints ns) (shaped_ints []) (by
    have e : PyData.eqv (.list (ns.map PyData.int)) (.list (([] : List Int).map PyData.int)) = ns.isEmpty := by
      cases ns with
      | nil => simp only [PyData.eqv, List.map_nil, PyData.eqvAll]; rfl
      | cons x r => simp only [PyData.eqv, List.map_nil, List.map_cons, PyData.eqvAll]; rfl
    show Q (.bl (PyData.eqv (.list (ns.map PyData.int)) (.list (([] : List Int).map PyData.int)))) H
    rw [e]; exact q)
def sp_L_members (K : PySem.W.Frag) : Sp := fun vs H Q _ => ∃ (t l : Addr) (n : Int), vs = [.ref t, .int n] ∧ IsTape H t l ∧ 0 < n ∧ n ≤ 100 ∧ ∀ (D : Addr) (ms : List Int) H', H D = none → Fr t H H' → IsTape H' t l → H' D = some (.lst (ms.map V.int)) → 0 < ms.length → ms.length ≤ 100 → (∀ m ∈ ms, 0 ≤ m ∧ m < n) → Q (.ref D) H'
theorem ok_L_members (T : Txt K mg) : FnOk P w K mg base CX0 3 T.a_L_members T.d_L_members ["_law_tape_here", "_law_many"] (sp_L_members K) := by
  refine T.F_L_members.ok sc_L_members (fun vs H Q E h => ?_) (fun cdv A outer s H vs Q E hr h => ?_)
  · obtain ⟨_, _, _, rfl, _⟩ := h
    rfl
  · obtain ⟨t, l, n, rfl, hT, hn0, hn1, k⟩ := h
    obtain ⟨kv0, ht0⟩ := tape_dk hT
    have hl0 : ∃ u, H l = some u := by
      obtain ⟨cs, _, _, _, _, _, _, h2, _⟩ := hT
      exact ⟨_, h2⟩
    obtain ⟨ul, hl0⟩ := hl0
    refine ⟨_, (pss_cons (ps_setLc (i := 2) (own := [("_law_m", 3)]) (g := gName 3) rfl sc_L_members.nd rfl rfl (sw_true rfl rfl rfl (by decide +kernel)) (pi_range1 rfl T.z_range (pa_cons (pv 1) pa_nil)) (blkOk_by (own := [("_law_m", 3)]) (by kernel_rfl)) (fun _ _ _ _ _ => (pg_name (i := 3) sc_L_members.nd rfl (by first | exact Or.inl rfl | exact Or.inr rfl))) (fun _ _ _ _ _ => pts_one (pt_cmpR op_gt (pe_call (ok_L_draw T) (hr.mono (by decide)) (by rfl) T.g_L_draw T.F_L_draw.kp T.b_L_draw .nil pass0 (pa_cons (pv 0) (pa_cons pe_int pa_nil))) pe_int (nomark _))) (fun _ _ _ _ _ => (pv 3)))
      (pss_cons (ps_if (pt_cmpR (k_eqG (K := K) rfl hr.units) (pv 2) (pe_lst pa_nil) (nomark _)) (pss_one (ps_set (i := 2) sc_L_members.nd rfl (Or.inl rfl) (pe_lst (pa_cons (pe_call (ok_L_draw T) (hr.mono (by decide)) (by rfl) T.g_L_draw T.F_L_draw.kp T.b_L_draw .nil pass0 (pa_cons (pv 0) (pa_cons (pv 1) pa_nil))) pa_nil)))) pss_nil)
      (pss_one (ps_ret (pv 2))))), ?_⟩
    refine go_start (σ' := [some (.ref t), some (.int n), none, none]) rfl ?_
    try dsimp only [cxOf, Cx.nox, Cx.wish]
    walk_at "go"
    refine l_compGR (by omega) (by omega) (fun D i acc H' => Fr t H H' ∧ IsTape H' t l ∧ ∃ ms : List Int, acc = ms.map V.int ∧ ∀ m ∈ ms, 0 ≤ m ∧ m < (i : Int)) (fun _ => rfl)
      (fun D hD => ⟨Fr.same (Same.new hD), hT.same (Same.new hD), [], rfl, List.forall_mem_nil _⟩) (fun i H1 D acc NT NF hi hD st e1 hl hTr hFa => ?_) (fun D H' ys hD st e hl => ?_)
    · obtain ⟨fr, hT1, ms, rfl, hms⟩ := st
      have hDt : D ≠ t := fun e => by rw [e, ht0] at hD; cases hD
      have hDl : D ≠ l := fun e => by rw [e, hl0] at hD; cases hD
      walk_at "go"
      refine ⟨t, l, _, rfl, hT1, by omega, fun r H2 hr0 hr1 f2 hT2 => ?_⟩
      have e2 := f2 _ _ hDt e1
      walk_at "go"
      refine w_iteD (fun _ => ?_) (fun _ => ?_)
      · walk_at "go"
        refine hTr _ _ e2 ⟨?_, hT2.upd hDt hDl, ms ++ [(i : Int)], by rw [List.map_append]; rfl, fun m hm => ?_⟩
        · intro c o hc hco
          rw [upd_ne (ne_of_none hco hD)]
          exact f2 _ _ hc (fr _ _ hc hco)
        · rcases List.mem_append.mp hm with h | h
          · have := hms m h
            omega
          · rw [List.mem_singleton.mp h]; omega
      · exact hFa _ e2 ⟨fr.trans f2, hT2, ms, rfl, fun m hm => by have := hms m hm; omega⟩
    · obtain ⟨fr, hT1, ms, rfl, hms⟩ := st
      rw [List.length_map] at hl
      have hms : ∀ m ∈ ms, 0 ≤ m ∧ m < n := fun m hm => by have := hms m hm; omega
      walk_at "go"
      refine ⟨Nat.zero_le _, fun p hp => ?_⟩
      have s2 := Same.new (o := .lst []) hp
      refine w_eqNil (Sq.lst (s2 _ _ e)) (Sq.lst upd_same) ?_
      have fr2 := fr.trans (Fr.same (t := t) s2)
      have hT2 := hT1.same s2
      have e2 := s2 _ _ e
      generalize upd H' p (.lst []) = H2 at s2 fr2 hT2 e2 ⊢
      walk_at "go"
      refine w_iteB (fun hb => ?_) (fun hb => ?_)
      · walk_at "go"
        refine ⟨t, l, _, rfl, hT2, hn0, fun r H3 hr0 hr1 f3 hT3 => ?_⟩
        walk_at "go"
        refine ⟨by show 1 ≤ sizeLine; decide, fun q hq => ?_⟩
        walk_at "go"
        have hq0 : H q = none := by
          cases e : H q with
          | none => rfl
          | some u =>
            by_cases hqt : q = t
            · obtain ⟨kv, h⟩ := tape_dk hT3
              rw [hqt, h] at hq; cases hq
            · rw [(fr2.trans f3) _ _ hqt e] at hq; cases hq
        exact k q [r] _ hq0 ((fr2.trans f3).trans (Fr.same (Same.new hq))) (hT3.same (Same.new hq)) upd_same (by show 0 < 1; omega) (by show 1 ≤ 100; omega) fun m hm => by rw [List.mem_singleton.mp hm]; omega
      · walk_at "go"
        have h0 : 0 < ms.length := by
          cases ms with
          | nil => cases hb
          | cons x r => exact Nat.zero_lt_succ _
        exact k D ms _ hD fr2 hT2 e2 h0 (by omega) hms
def FairNow (ws cs al : List Int) : Prop := ∀ i ∈ al, ∀ j ∈ al, nth cs i * nth ws j ≤ (nth cs j + 1) * nth ws i
def sp_L_fair (K : PySem.W.Frag) : Sp := fun vs H Q _ => ∃ (wd lw lt la : Addr) (ws cs al : List Int), vs = [.ref wd] ∧ IsWorld H wd lw lt la ws cs al ∧ FairOk ws cs ∧ (∀ m ∈ al, 0 ≤ m ∧ m < ws.length) ∧ al.length ≤ 1000 ∧ FairNow ws cs al ∧ Q (.bl true) H
theorem ok_L_fair (T : Txt K mg) : FnOk P w K mg base CX0 1 T.a_L_fair T.d_L_fair ["_law_world"] (sp_L_fair K) := by
  refine T.F_L_fair.ok sc_L_fair (fun vs H Q E h => ?_) (fun cdv A outer s H vs Q E hr h => ?_)
  · obtain ⟨_, _, _, _, _, _, _, rfl, _⟩ := h
    rfl
  · obtain ⟨wd, lw, lt, la, ws, cs, al, rfl, ⟨hW, hw, hc, hal⟩, ok, hin, hz, hfair, k⟩ := h
    have hl := ok.len
    refine ⟨_, (pss_cons (ps_for PassesOwn.never rfl (k_seqS (K := K) rfl (pe_dget (u1 hr.units) (pv 0) pe_str (fun _ _ => rfl))) (pg_name (i := 1) sc_L_fair.nd rfl (Or.inl rfl))
      (pss_one (ps_for PassesOwn.never rfl (k_seqS (K := K) rfl (pe_dget (u1 hr.units) (pv 0) pe_str (fun _ _ => rfl))) (pg_name (i := 2) sc_L_fair.nd rfl (Or.inl rfl))
      (pss_one (ps_if (pt_cmpR op_gt (pe_op op_mul (pe_ix (k_ix (K := K) rfl) (pe_dget (u1 hr.units) (pv 0) pe_str (fun _ _ => rfl)) (pv 1) (fun _ _ => rfl)) (pe_ix (k_ix (K := K) rfl) (pe_dget (u1 hr.units) (pv 0) pe_str (fun _ _ => rfl)) (pv 2) (fun _ _ => rfl))) (pe_op op_mul (pe_op (k_addG (K := K) rfl) (pe_ix (k_ix (K := K) rfl) (pe_dget (u1 hr.units) (pv 0) pe_str (fun _ _ => rfl)) (pv 2) (fun _ _ => rfl)) pe_int) (pe_ix (k_ix (K := K) rfl) (pe_dget (u1 hr.units) (pv 0) pe_str (fun _ _ => rfl)) (pv 1) (fun _ _ => rfl))) (nomark _)) (pss_one (ps_ret pe_bl)) pss_nil)))))
      (pss_one (ps_ret pe_bl))), ?_⟩
    refine go_start (σ' := [some (.ref wd), none, none]) rfl ?_
    try dsimp only [cxOf, Cx.nox, Cx.wish]
    walk_at "go"
    refine l_seq (b := true) (al.map V.int) (fun i σ H' => ∃ y1 y2, σ = [some (.ref wd), y1, y2] ∧ H' = H) (Sq.lst hal) ⟨none, none, rfl, rfl⟩ (fun i σ H' _ ⟨_, _, _, e⟩ => by rw [e]; exact Sq.lst hal) ?_ ?_
    · rintro i x σ H' hi hx ⟨y1, y2, rfl, rfl⟩
      obtain ⟨rfl, hi1⟩ := vec_at hx
      have hmi := nth_mem (ns := al) (i := ((i : Nat) : Int)) (by omega) (by omega)
      generalize nth al ((i : Nat) : Int) = p at hmi ⊢
      have hp := hin p hmi
      walk_at "go"
      refine l_seq (b := true) (al.map V.int) (fun j σ H2 => ∃ y2, σ = [some (.ref wd), some (.int p), y2] ∧ H2 = H') (Sq.lst hal) ⟨_, rfl, rfl⟩ (fun i σ H' _ ⟨_, _, e⟩ => by rw [e]; exact Sq.lst hal) ?_ ?_
      · rintro j x σ H' hj hx ⟨y2, rfl, rfl⟩
        obtain ⟨rfl, hj1⟩ := vec_at hx
        have hmj := nth_mem (ns := al) (i := ((j : Nat) : Int)) (by omega) (by omega)
        generalize nth al ((j : Nat) : Int) = q at hmj ⊢
        have hq := hin q hmj
        have hwp := ok.pos _ (nth_mem (ns := ws) (i := p) hp.1 hp.2)
        have hwq := ok.pos _ (nth_mem (ns := ws) (i := q) hq.1 hq.2)
        have hf := hfair p hmi q hmj
        walk_at "go"
        refine w_iteD (fun hc => absurd hf (by omega)) (fun _ => ?_)
        walk_at "go"
        exact ⟨_, rfl, rfl⟩
      · rintro σ H' ⟨y2, rfl, rfl⟩
        walk_at "go"
        exact ⟨_, _, rfl, rfl⟩
    · rintro σ H' ⟨y1, y2, rfl, rfl⟩
      walk_at "go"
      exact k

/-! ### the plain law: what is always a member is chosen fairly -/
theorem bestOf_least {ws cs : List Int} (hw : ∀ i : Int, 0 ≤ i → i < ws.length → 1 ≤ nth ws i) : ∀ (ms : List Int) (b : Int), 0 ≤ b ∧ b < ws.length → (∀ m ∈ ms, 0 ≤ m ∧ m < ws.length) →
    ∀ m, (m = b ∨ m ∈ ms) → (nth cs (bestOf ws cs ms b) + 1) * nth ws m ≤ (nth cs m + 1) * nth ws (bestOf ws cs ms b)
  | [], b, _, _, m, hm => by
    rcases hm with rfl | h
    · exact Int.le_refl _
    · cases h
  | a :: r, b, hb, hr, m, hm => by
    have ha := hr a (List.mem_cons_self ..)
    have hr' : ∀ m ∈ r, 0 ≤ m ∧ m < ws.length := fun m h => hr m (List.mem_cons_of_mem _ h)
    show (nth cs (bestOf ws cs r (if ahead ws cs a b = true then a else b)) + 1) * nth ws m ≤ (nth cs m + 1) * nth ws (bestOf ws cs r (if ahead ws cs a b = true then a else b))
    have hb' : 0 ≤ (if ahead ws cs a b = true then a else b) ∧ (if ahead ws cs a b = true then a else b) < ws.length := by split <;> assumption
    have ih := bestOf_least (cs := cs) hw r (if ahead ws cs a b = true then a else b) hb' hr'
    have hbest : 0 ≤ bestOf ws cs r (if ahead ws cs a b = true then a else b) ∧ bestOf ws cs r (if ahead ws cs a b = true then a else b) < ws.length := by
      rcases bestOf_mem (ws := ws) (cs := cs) r (if ahead ws cs a b = true then a else b) with h | h
      · rw [h]; exact hb'
      · exact hr' _ h
    generalize bestOf ws cs r (if ahead ws cs a b = true then a else b) = best at ih hbest ⊢
    have hwb := hw best hbest.1 hbest.2
    have hwa := hw a ha.1 ha.2
    have hwbb := hw b hb.1 hb.2
    -- (c + 1) / w carried over a middle one
    have mid : ∀ x y : Int, 1 ≤ nth ws x → 1 ≤ nth ws y → (nth cs best + 1) * nth ws x ≤ (nth cs x + 1) * nth ws best → (nth cs x + 1) * nth ws y ≤ (nth cs y + 1) * nth ws x → (nth cs best + 1) * nth ws y ≤ (nth cs y + 1) * nth ws best := fun x y hx hy h1 h2 => by
      have h3 := Int.mul_le_mul_of_nonneg_right h1 (show 0 ≤ nth ws y by omega)
      have h4 := Int.mul_le_mul_of_nonneg_right h2 (show 0 ≤ nth ws best by omega)
      have h5 : (nth cs best + 1) * nth ws y * nth ws x ≤ (nth cs y + 1) * nth ws best * nth ws x := by
        calc (nth cs best + 1) * nth ws y * nth ws x = (nth cs best + 1) * nth ws x * nth ws y := by rw [Int.mul_assoc, Int.mul_comm (nth ws y), ← Int.mul_assoc]
          _ ≤ (nth cs x + 1) * nth ws best * nth ws y := h3
          _ = (nth cs x + 1) * nth ws y * nth ws best := by rw [Int.mul_assoc, Int.mul_comm (nth ws best), ← Int.mul_assoc]
          _ ≤ (nth cs y + 1) * nth ws x * nth ws best := h4
          _ = (nth cs y + 1) * nth ws best * nth ws x := by rw [Int.mul_assoc, Int.mul_comm (nth ws x), ← Int.mul_assoc]
      exact Int.le_of_mul_le_mul_right h5 (by omega)
    by_cases hah : ahead ws cs a b = true
    · rw [if_pos hah] at ih
      have hlt : (nth cs a + 1) * nth ws b < (nth cs b + 1) * nth ws a := of_decide_eq_true hah
      rcases hm with rfl | h
      · exact mid a m hwa hwbb (ih a (.inl rfl)) (Int.le_of_lt hlt)
      · rcases List.mem_cons.mp h with rfl | h
        · exact ih m (.inl rfl)
        · exact ih m (.inr h)
    · rw [if_neg hah] at ih
      have hge : (nth cs b + 1) * nth ws a ≤ (nth cs a + 1) * nth ws b := by
        have : ¬ (nth cs a + 1) * nth ws b < (nth cs b + 1) * nth ws a := fun h => hah (decide_eq_true h)
        omega
      rcases hm with rfl | h
      · exact ih m (.inl rfl)
      · rcases List.mem_cons.mp h with rfl | h
        · exact mid b m hwbb hwa (ih b (.inl rfl)) hge
        · exact ih m (.inr h)
theorem nth_oneMore {cs : List Int} {b i : Int} (hb : 0 ≤ b ∧ b < cs.length) (hi : 0 ≤ i ∧ i < cs.length) : nth (oneMore cs b) i = if i = b then nth cs b + 1 else nth cs i := by
  unfold oneMore nth
  rw [List.getD_eq_getElem?_getD, List.getElem?_set]
  by_cases h : i = b
  · subst h
    rw [if_pos rfl, if_pos (by omega), if_pos rfl]; rfl
  · rw [if_neg (by omega), if_neg h, ← List.getD_eq_getElem?_getD]
theorem fair_step {ws cs al ms : List Int} (ok : FairOk ws cs) (hm0 : 0 < ms.length) (hms : ∀ m ∈ ms, 0 ≤ m ∧ m < ws.length) (hal : ∀ m ∈ al, m ∈ ms) (hf : FairNow ws cs al) : FairNow ws (oneMore cs (chosenBy ws cs ms)) al := fun i hi j hj => by
  have hl := ok.len
  have hw : ∀ i : Int, 0 ≤ i → i < ws.length → 1 ≤ nth ws i := fun i h0 h1 => (ok.pos _ (nth_mem h0 h1)).1
  have h0 := nth_mem (ns := ms) (i := 0) (by omega) (by omega)
  have hb : 0 ≤ chosenBy ws cs ms ∧ chosenBy ws cs ms < ws.length := by
    rcases bestOf_mem (ws := ws) (cs := cs) ms (nth ms 0) with h | h
    · unfold chosenBy; rw [h]; exact hms _ h0
    · exact hms _ h
  have least := bestOf_least (cs := cs) hw ms (nth ms 0) (hms _ h0) hms
  change ∀ m, m = nth ms 0 ∨ m ∈ ms → (nth cs (chosenBy ws cs ms) + 1) * nth ws m ≤ (nth cs m + 1) * nth ws (chosenBy ws cs ms) at least
  generalize chosenBy ws cs ms = b at hb least ⊢
  have hi' := hms i (hal i hi)
  have hj' := hms j (hal j hj)
  have hwi := hw i hi'.1 hi'.2
  have hwj := hw j hj'.1 hj'.2
  have hwb := hw b hb.1 hb.2
  rw [nth_oneMore (by omega) (by omega), nth_oneMore (by omega) (by omega)]
  by_cases h1 : i = b
  · rw [if_pos h1]
    by_cases h2 : j = b
    · rw [if_pos h2, h1, h2, Int.add_mul (nth cs b + 1) 1]
      omega
    · rw [if_neg h2, h1]
      exact least j (.inr (hal j hj))
  · rw [if_neg h1]
    by_cases h2 : j = b
    · rw [if_pos h2, h2, Int.add_mul (nth cs b + 1) 1]
      have h3 := hf i hi j hj
      rw [h2] at h3
      omega
    · rw [if_neg h2]
      exact hf i hi j hj

/-! ### the whole state of the law: tape, choices, own tallies -/
theorem flat_ints (ns : List Int) : (ns.map V.int).all flatV = true := by
  rw [List.all_eq_true]
  intro x hx
  obtain ⟨i, _, rfl⟩ := List.mem_map.mp hx
  rfl
theorem inV_ints (m : Int) (ns : List Int) : inV (.int m) (ns.map V.int) = decide (m ∈ ns) := by
  unfold inV
  rw [Bool.eq_iff_iff, List.any_eq_true, decide_eq_true_iff]
  constructor
  · rintro ⟨y, hy, e⟩
    obtain ⟨i, hi, rfl⟩ := List.mem_map.mp hy
    have e : (i == m) = true := e
    rw [← eq_of_beq e]
    exact hi
  · intro h
    exact ⟨.int m, List.mem_map.mpr ⟨m, h, rfl⟩, beq_self_eq_true m⟩
structure S56 (K : PySem.W.Frag) (C : Addr) (H : Hp) (t l f ac wd lw lt la : Addr) (ws cs cs2 al : List Int) : Prop where
  tp : IsTape H t l
  fa : IsFair K C H f ac ws cs
  wo : IsWorld H wd lw lt la ws cs2 al
  d1 : wd ≠ t
  d2 : l ≠ ac
  d3 : lw ≠ ac
  d4 : lt ≠ ac
  d5 : la ≠ ac
  d6 : l ≠ lt
  d7 : lw ≠ lt
  d8 : la ≠ lt
section
variable {K : PySem.W.Frag} {C : Addr} {H H' : Hp} {t l f ac wd lw lt la : Addr} {ws cs cs2 al : List Int}
theorem tape_frame {x : Addr} (fr : Fr x H H') (h1 : t ≠ x) (h2 : l ≠ x) (h : IsTape H t l) : IsTape H' t l := by
  obtain ⟨a, b, c, d, e, g, i1, i2, i3⟩ := h
  exact ⟨a, b, c, d, e, g, fr _ _ h1 i1, fr _ _ h2 i2, i3⟩
theorem S56.acl (s : S56 K C H t l f ac wd lw lt la ws cs cs2 al) : H ac = some (.lst (cs.map V.int)) := by
  obtain ⟨_, _, _, _, h⟩ := s.fa
  exact h
theorem S56.same (sm : Same H H') (s : S56 K C H t l f ac wd lw lt la ws cs cs2 al) : S56 K C H' t l f ac wd lw lt la ws cs cs2 al := by
  obtain ⟨dx, aw, h1, h2, h3⟩ := s.fa
  obtain ⟨w1, w2, w3, w4⟩ := s.wo
  exact ⟨s.tp.same sm, ⟨dx, aw, sm _ _ h1, sm.sq h2, sm _ _ h3⟩, ⟨sm _ _ w1, sm _ _ w2, sm _ _ w3, sm _ _ w4⟩, s.d1, s.d2, s.d3, s.d4, s.d5, s.d6, s.d7, s.d8⟩
theorem S56.draw (fr : Fr t H H') (ht : IsTape H' t l) (s : S56 K C H t l f ac wd lw lt la ws cs cs2 al) : S56 K C H' t l f ac wd lw lt la ws cs cs2 al := by
  obtain ⟨dx, aw, h1, h2, h3⟩ := s.fa
  obtain ⟨w1, w2, w3, w4⟩ := s.wo
  obtain ⟨kv, hd⟩ := tape_dk s.tp
  have n : ∀ {b : Addr} {o : HO}, H b = some o → (∀ kvs, o ≠ .dK kvs) → b ≠ t := fun h1 h2 e => by
    rw [e, hd] at h1
    exact h2 kv (Option.some.inj h1).symm
  exact ⟨ht, ⟨dx, aw, fr _ _ (n h1 (fun _ h => by cases h)) h1, fr.sq ⟨kv, hd⟩ h2, fr _ _ (n h3 (fun _ h => by cases h)) h3⟩,
    ⟨fr _ _ s.d1 w1, fr _ _ (n w2 (fun _ h => by cases h)) w2, fr _ _ (n w3 (fun _ h => by cases h)) w3, fr _ _ (n w4 (fun _ h => by cases h)) w4⟩, s.d1, s.d2, s.d3, s.d4, s.d5, s.d6, s.d7, s.d8⟩
theorem S56.chose {cs' : List Int} (fr : Fr ac H H') (ha : H' ac = some (.lst (cs'.map V.int))) (s : S56 K C H t l f ac wd lw lt la ws cs cs2 al) : S56 K C H' t l f ac wd lw lt la ws cs' cs2 al := by
  obtain ⟨dx, aw, h1, h2, h3⟩ := s.fa
  obtain ⟨w1, w2, w3, w4⟩ := s.wo
  obtain ⟨kv, hd⟩ := tape_dk s.tp
  exact ⟨tape_frame fr (fun e => by rw [e, h3] at hd; cases hd) s.d2 s.tp, ⟨dx, aw, fr _ _ (fun e => by rw [e, h3] at h1; cases h1) h1, Fr.sqL fr h3 h2, ha⟩,
    ⟨fr _ _ (fun e => by rw [e, h3] at w1; cases w1) w1, fr _ _ s.d3 w2, fr _ _ s.d4 w3, fr _ _ s.d5 w4⟩, s.d1, s.d2, s.d3, s.d4, s.d5, s.d6, s.d7, s.d8⟩
theorem S56.own {cs' : List Int} (fr : Fr lt H H') (ha : H' lt = some (.lst (cs'.map V.int))) (s : S56 K C H t l f ac wd lw lt la ws cs cs2 al) : S56 K C H' t l f ac wd lw lt la ws cs cs' al := by
  obtain ⟨dx, aw, h1, h2, h3⟩ := s.fa
  obtain ⟨w1, w2, w3, w4⟩ := s.wo
  obtain ⟨kv, hd⟩ := tape_dk s.tp
  exact ⟨tape_frame fr (fun e => by rw [e, w3] at hd; cases hd) s.d6 s.tp, ⟨dx, aw, fr _ _ (fun e => by rw [e, w3] at h1; cases h1) h1, Fr.sqL fr w3 h2, fr _ _ (Ne.symm s.d4) h3⟩,
    ⟨fr _ _ (fun e => by rw [e, w3] at w1; cases w1) w1, fr _ _ s.d7 w2, ha, fr _ _ s.d8 w4⟩, s.d1, s.d2, s.d3, s.d4, s.d5, s.d6, s.d7, s.d8⟩
theorem S56.always {D : Addr} {al' : List Int} (hD : H D = some (.lst (al'.map V.int))) (h1 : D ≠ ac) (h2 : D ≠ lt) (s : S56 K C H t l f ac wd lw lt la ws cs cs2 al) : S56 K C (upd H wd (.dK [(.inr "weights", .ref lw), (.inr "tally", .ref lt), (.inr "always", .ref D)])) t l f ac wd lw lt D ws cs cs2 al' := by
  obtain ⟨dx, aw, g1, g2, g3⟩ := s.fa
  obtain ⟨w1, w2, w3, w4⟩ := s.wo
  have fr : Fr wd H (upd H wd (.dK [(.inr "weights", .ref lw), (.inr "tally", .ref lt), (.inr "always", .ref D)])) := (Fr.refl _ _).upd _
  have n : ∀ {b : Addr} {o : HO}, H b = some o → (∀ kvs, o ≠ .dK kvs) → b ≠ wd := fun h1 h2 e => by
    rw [e, w1] at h1
    exact h2 _ (Option.some.inj h1).symm
  obtain ⟨_, _, _, _, _, _, _, hl, _⟩ := id s.tp
  exact ⟨tape_frame fr (Ne.symm s.d1) (n hl (fun _ h => by cases h)) s.tp, ⟨dx, aw, fr _ _ (n g1 (fun _ h => by cases h)) g1, fr.sq ⟨_, w1⟩ g2, fr _ _ (n g3 (fun _ h => by cases h)) g3⟩,
    ⟨upd_same, fr _ _ (n w2 (fun _ h => by cases h)) w2, fr _ _ (n w3 (fun _ h => by cases h)) w3, fr _ _ (n hD (fun _ h => by cases h)) hD⟩, s.d1, s.d2, s.d3, s.d4, h1, s.d6, s.d7, h2⟩
end
theorem fair_nought (ws al : List Int) (hw : ∀ i : Int, i ∈ al → 0 ≤ i ∧ i < ws.length) (hp : ∀ x ∈ ws, 1 ≤ x ∧ x ≤ 1000) : FairNow ws (noughts ws) al := fun i hi j hj => by
  have z : ∀ k : Int, 0 ≤ k → k < ws.length → nth (noughts ws) k = 0 := fun k h0 h1 => by
    unfold noughts nth
    rw [List.getD_eq_getElem?_getD, List.getElem?_map, List.getElem?_eq_getElem (by omega)]; rfl
  have h1 := hw i hi
  have h2 := hw j hj
  rw [z i h1.1 h1.2, z j h2.1 h2.2]
  have := hp _ (nth_mem (ns := ws) (i := i) h1.1 h1.2)
  omega
theorem fair_steps {ws al ms : List Int} (hm0 : 0 < ms.length) (hms : ∀ m ∈ ms, 0 ≤ m ∧ m < ws.length) {cs : List Int} (ok : FairOk ws cs) (hal : ∀ m ∈ al, m ∈ ms) (hf : FairNow ws cs al) : ∀ n, FairNow ws (afterN ws ms n cs) al
  | 0 => hf
  | n + 1 => fair_step (afterN_ok ok n) hm0 hms hal (fair_steps hm0 hms ok hal hf n)
theorem tape_l {H : Hp} {t l : Addr} (h : IsTape H t l) : ∃ cl : List Int, H l = some (.lst (cl.map V.int)) := by
  obtain ⟨cs, _, _, _, _, _, _, h2, _⟩ := h
  exact ⟨_, h2⟩
theorem fair_frame {K : PySem.W.Frag} {C f ac x : Addr} {H H' : Hp} {ws cs : List Int} {xs : List V} (fr : Fr x H H') (hx : H x = some (.lst xs)) (h2 : ac ≠ x) (h : IsFair K C H f ac ws cs) : IsFair K C H' f ac ws cs := by
  obtain ⟨dx, aw, g1, g2, g3⟩ := h
  exact ⟨dx, aw, fr _ _ (fun e => by rw [e, hx] at g1; cases g1) g1, Fr.sqL fr hx g2, fr _ _ h2 g3⟩
theorem fair_same {K : PySem.W.Frag} {C f ac : Addr} {H H' : Hp} {ws cs : List Int} (s : Same H H') (h : IsFair K C H f ac ws cs) : IsFair K C H' f ac ws cs := by
  obtain ⟨dx, aw, g1, g2, g3⟩ := h
  exact ⟨dx, aw, s _ _ g1, s.sq g2, s _ _ g3⟩
theorem none_before {H H' : Hp} {p : Addr} (s : Same H H') (h : H' p = none) : H p = none := by
  cases e : H p with
  | none => rfl
  | some u => rw [s _ _ e] at h; cases h
theorem rgV_ints {n : Int} (h : 0 ≤ n) : rgV 0 n = ((List.range n.toNat).map fun i => ((i : Nat) : Int)).map V.int := by
  unfold rgV
  rw [List.map_map, Int.sub_zero]
  refine List.map_congr_left fun i _ => ?_
  show V.int (0 + (i : Int)) = V.int (i : Int)
  rw [Int.zero_add]
theorem world_put {lw lt la D : Addr} : putK ([(.inr "weights", .ref lw), (.inr "tally", .ref lt), (.inr "always", .ref la)] : List (Key × V)) (.inr "always") (.ref D) = [(.inr "weights", .ref lw), (.inr "tally", .ref lt), (.inr "always", .ref D)] := by
  rw [putK_repl (u := .ref la) ((val_neg (by decide +kernel)).trans ((val_neg (by decide +kernel)).trans val_pos)), repl_neg (by decide +kernel), repl_neg (by decide +kernel), repl_pos]
  rfl
theorem nth_nought {ws : List Int} {i : Nat} (h : i < ws.length) : nth (noughts ws) (i : Int) = 0 := by
  unfold noughts
  rw [nth_nat, List.getD_eq_getElem?_getD, List.getElem?_map, List.getElem?_eq_getElem h]; rfl
theorem noughts_len (ws : List Int) : (noughts ws).length = ws.length := by unfold noughts; rw [List.length_map]
theorem one_sm {K : PySem.W.Frag} {H : Hp} {n : Nat} {x y : V} {i : Int} (h : ROne K H x i) (h' : ROne K H y i) : SmB K H (n + 1) x y := by
  obtain ⟨p, rfl, hp⟩ := h
  obtain ⟨q, rfl, hq⟩ := h'
  exact .inr ⟨p, q, _, _, rfl, rfl, SqT.of hp, SqT.of hq, rfl, by show 2 ≤ 100000; omega, fun j x' y' e1 e2 => by
    match j, e1, e2 with
    | 0, e1, e2 => cases e1; cases e2; exact SmB.int
    | 1, e1, e2 => cases e1; cases e2; exact SmB.int
    | j + 2, e1, e2 => cases e1⟩
theorem ones_sm {K : PySem.W.Frag} {H : Hp} {n : Nat} {p q : Addr} {xs ys : List V} {f : Nat → Int} (hp : H p = some (.tup xs)) (hq : H q = some (.tup ys)) (hl : xs.length = ys.length) (hz : ys.length ≤ 100000)
    (hx : ∀ (j : Nat) y, xs[j]? = some y → ROne K H y (f j)) (hy : ∀ (j : Nat) y, ys[j]? = some y → ROne K H y (f j)) : SmB K H (n + 2) (.ref p) (.ref q) :=
  .inr ⟨p, q, _, _, rfl, rfl, SqT.of hp, SqT.of hq, hl, hz, fun j x' y' e1 e2 => one_sm (hx j _ e1) (hy j _ e2)⟩
theorem one_fr {K : PySem.W.Frag} {H H' : Hp} {x : Addr} {xs : List V} {v : V} {i : Int} (fr : Fr x H H') (hx : H x = some (.lst xs)) (h : ROne K H v i) : ROne K H' v i := by
  obtain ⟨p, rfl, hp⟩ := h
  exact ⟨p, rfl, fr _ _ (fun e => by rw [e, hx] at hp; cases hp) hp⟩
theorem afterN_len {ws ms cs : List Int} (ok : FairOk ws cs) (n : Nat) : (afterN ws ms n cs).length ≤ 100000 := by
  have h := (afterN_ok (ms := ms) ok n)
  have h1 := h.len
  have h2 := h.small
  omega

/-! ### the law -/
def sp_law (K : PySem.W.Frag) : Sp := fun vs H Q _ => ∃ (a : Addr) (ns : List Int), vs = [.ref a] ∧ SqL K H a (ns.map V.int) ∧ ns.length ≤ 63 ∧ ∀ H', Q (.bl true) H'
theorem ok_law (T : Txt K mg) : FnOk P w K mg base CX0 4 T.a_law T.d_law ["_law_script"] (sp_law K) := by
  refine T.F_law.ok sc_law (fun vs H Q E h => ?_) (fun cdv A outer s H vs Q E hr h => ?_)
  · obtain ⟨_, _, rfl, _⟩ := h
    rfl
  · obtain ⟨a, sc, rfl, hS0, hlen, k⟩ := h
    have hS : Sq true K H a (sc.map V.int) := hS0
    have cF := T.C_Fair
    have nA1 := T.n_Fair_weights
    have nA2 := T.n_Fair_chosen
    refine ⟨_, (pss_cons (ps_set (i := 1) sc_law.nd rfl (Or.inr rfl) (pe_call (ok_L_tape T) (hr.mono (by decide)) (by rfl) T.g_L_tape T.F_L_tape.kp T.b_L_tape .nil pass0 (pa_cons (pv 0) pa_nil)))
      (pss_cons (ps_set (i := 2) sc_law.nd rfl (Or.inl rfl) (pe_op (k_addG (K := K) rfl) pe_int (pe_call (ok_L_draw T) (hr.mono (by decide)) (by rfl) T.g_L_draw T.F_L_draw.kp T.b_L_draw .nil pass0 (pa_cons (pv 1) (pa_cons pe_int pa_nil)))))
      (pss_cons (ps_setLc (i := 3) (own := [("_law_m", 14)]) (g := gName 14) (tt := tYes) rfl sc_law.nd rfl rfl (sw_true rfl rfl rfl (by decide +kernel)) (pi_range1 rfl T.z_range (pa_cons (pv 2) pa_nil)) (blkOk_by (own := [("_law_m", 14)]) (by kernel_rfl)) (fun _ _ _ _ _ => (pg_name (i := 14) sc_law.nd rfl (by first | exact Or.inl rfl | exact Or.inr rfl))) (fun _ _ _ _ _ => pts_nil) (fun _ _ _ _ _ => (pe_call (ok_L_pick T) (hr.mono (by decide)) (by rfl) T.g_L_pick T.F_L_pick.kp T.b_L_pick .nil pass0 (pa_cons (pv 1) (pa_cons (pe_lst (pa_cons pe_int (pa_cons pe_int (pa_cons pe_int (pa_cons pe_int (pa_cons (pe_op (k_addG (K := K) rfl) pe_int (pe_call (ok_L_draw T) (hr.mono (by decide)) (by rfl) T.g_L_draw T.F_L_draw.kp T.b_L_draw .nil pass0 (pa_cons (pv 1) (pa_cons pe_int pa_nil)))) pa_nil)))))) pa_nil)))))
      (pss_cons (ps_set (i := 4) sc_law.nd rfl (Or.inl rfl) (pe_callTy (k_listS (K := K) rfl) (by rfl) T.z_list (by decide +kernel) (pa_cons (pv 3) pa_nil)))
      (pss_cons (ps_set (i := 5) sc_law.nd rfl (Or.inl rfl) (pe_make T.M_Fair (ok_Fair___init__ T) (hr.mono (by decide)) rfl T.gc_Fair T.b_Fair___init__ .nil pass0 (pa_cons (pv 4) pa_nil)))
      (pss_cons (ps_expr (k_bm (K := K) rfl PySem.F.plainAttrs_list PySem.F.slot_list_append PySem.F.type_list_append mt_append (pv 4) (pa_cons pe_int pa_nil)))
      (pss_cons (ps_asg pe_int (pg_sub (pv 4) pe_int set_list))
      (pss_cons (ps_set (i := 6) sc_law.nd rfl (Or.inr rfl) (pe_disp (pps_cons pe_str (pv 3) (pps_cons pe_str (pe_lc (own := [("_law_m", 14)]) (g := gName 14) (tt := tYes) rfl sc_law.nd (pi_range1 rfl T.z_range (pa_cons (pv 2) pa_nil)) (blkOk_by (own := [("_law_m", 14)]) (by kernel_rfl)) (fun _ _ _ _ _ => (pg_name (i := 14) sc_law.nd rfl (by first | exact Or.inl rfl | exact Or.inr rfl))) (fun _ _ _ _ _ => pts_nil) (fun _ _ _ _ _ => pe_int)) (pps_cons pe_str (pe_listRg rfl (by rfl) T.z_list (prg_1 (by rfl) T.z_range (pv 2))) pps_nil))) rfl rfl (by simp) (by decide)))
      (pss_cons (ps_for PassesOwn.never rfl (pi_range1 rfl T.z_range (pa_cons (pe_op (k_addG (K := K) rfl) pe_int (pe_call (ok_L_draw T) (hr.mono (by decide)) (by rfl) T.g_L_draw T.F_L_draw.kp T.b_L_draw .nil pass0 (pa_cons (pv 1) (pa_cons pe_int pa_nil)))) pa_nil)) (pg_name (i := 7) sc_law.nd rfl (Or.inl rfl))
      (pss_cons (ps_set (i := 8) sc_law.nd rfl (Or.inr rfl) (pe_call (ok_L_members T) (hr.mono (by decide)) (by rfl) T.g_L_members T.F_L_members.kp T.b_L_members .nil pass0 (pa_cons (pv 1) (pa_cons (pv 2) pa_nil))))
      (Evl.pss_cut (ps_if (pt_cmpR (k_eqG (K := K) rfl hr.units) (pe_call (ok_L_draw T) (hr.mono (by decide)) (by rfl) T.g_L_draw T.F_L_draw.kp T.b_L_draw .nil pass0 (pa_cons (pv 1) (pa_cons pe_int pa_nil))) pe_int (nomark _)) (pss_one (ps_set (i := 8) sc_law.nd rfl (Or.inr rfl) (pe_callTy (k_listS (K := K) rfl) (by rfl) T.z_list (by decide +kernel) (pa_cons (pe_dget (u1 hr.units) (pv 6) pe_str (fun _ _ => rfl)) pa_nil)))) pss_nil)
      (Evl.pss_cut (ps_if (pt_cmpR (k_eqG (K := K) rfl hr.units) (pv 8) (pe_lst pa_nil) (nomark _)) (pss_one (ps_set (i := 8) sc_law.nd rfl (Or.inr rfl) (pe_lst (pa_cons pe_int pa_nil)))) pss_nil)
      (pss_cons (ps_set (i := 9) sc_law.nd rfl (Or.inl rfl) (pe_call (ok_L_pick T) (hr.mono (by decide)) (by rfl) T.g_L_pick T.F_L_pick.kp T.b_L_pick .nil pass0 (pa_cons (pv 1) (pa_cons (pe_lst (pa_cons (pe_callTy (k_listS (K := K) rfl) (by rfl) T.z_list (by decide +kernel) (pa_cons (pv 8) pa_nil)) (pa_cons (pe_callTy (k_tupS (K := K) rfl) (by rfl) T.z_tuple (by decide +kernel) (pa_cons (pv 8) pa_nil)) pa_nil))) pa_nil))))
      (pss_cons (ps_set (i := 10) sc_law.nd rfl (Or.inr rfl) (pe_call (ok_L_pick T) (hr.mono (by decide)) (by rfl) T.g_L_pick T.F_L_pick.kp T.b_L_pick .nil pass0 (pa_cons (pv 1) (pa_cons (pe_lst (pa_cons pe_int (pa_cons pe_int (pa_cons pe_int (pa_cons pe_int (pa_cons (pe_call (ok_L_draw T) (hr.mono (by decide)) (by rfl) T.g_L_draw T.F_L_draw.kp T.b_L_draw .nil pass0 (pa_cons (pv 1) (pa_cons pe_int pa_nil))) pa_nil)))))) pa_nil))))
      (pss_cons (ps_dput (u1 hr.units) (pv 6) pe_str (pe_lc (own := [("_law_m", 14)]) (g := gName 14) rfl sc_law.nd (k_seqS (K := K) rfl (pe_dget (u1 hr.units) (pv 6) pe_str (fun _ _ => rfl))) (blkOk_by (own := [("_law_m", 14)]) (by kernel_rfl)) (fun _ _ _ _ _ => (pg_name (i := 14) sc_law.nd rfl (by first | exact Or.inl rfl | exact Or.inr rfl))) (fun _ _ _ _ _ => pts_one (PW.pt (pw_or (pt_cmpR (k_inS (K := K) rfl) (pv 14) (pv 8) rfl) (pw_or1 (pt_cmpR (k_eqG (K := K) rfl hr.units) (pv 10) pe_int (nomark _)))))) (fun _ _ _ _ _ => (pv 14))) rfl)
      (Evl.pss_cut (ps_if (pt_cmpR (k_eqG (K := K) rfl hr.units) (pe_call (ok_L_draw T) (hr.mono (by decide)) (by rfl) T.g_L_draw T.F_L_draw.kp T.b_L_draw .nil pass0 (pa_cons (pv 1) (pa_cons pe_int pa_nil))) pe_int (nomark _)) (pss_cons (ps_set (i := 12) sc_law.nd rfl (Or.inl rfl) (pe_callTy (k_tupS (K := K) rfl) (by rfl) T.z_tuple (by decide +kernel) (pa_cons (pe_lc (own := [("_law_at", 11)]) (g := gName 11) (tt := tYes) rfl sc_law.nd (pi_range1 rfl T.z_range (pa_cons (pv 10) pa_nil)) (blkOk_by (own := [("_law_at", 11)]) (by kernel_rfl)) (fun _ _ _ _ _ => (pg_name (i := 11) sc_law.nd rfl (by first | exact Or.inl rfl | exact Or.inr rfl))) (fun _ _ _ _ _ => pts_nil) (fun _ _ _ _ _ => (pe_tup (pa_cons (pe_call (ok_L_choose T) (hr.mono (by decide)) (by rfl) T.g_L_choose T.F_L_choose.kp T.b_L_choose .nil pass0 (pa_cons (pv 6) (pa_cons (pv 8) pa_nil))) (pa_cons pe_int pa_nil))))) pa_nil)))
      (pss_one (ps_if (pt_not (k_tru (K := K) rfl (pe_call (ok_L_same_at T 2) (hr.mono (by decide)) (by rfl) T.g_L_same T.F_L_same.kp T.b_L_same .nil pass0 (pa_cons (pe_meth (pv 5) T.C_Fair T.m_Fair_plan (ok_Fair_plan T) (hr.mono (by decide)) T.b_Fair_plan .nil pass0 (pa_cons (pv 9) (pa_cons (pv 10) pa_nil))) (pa_cons (pv 12) pa_nil))) (by intro _; rfl))) (pss_one (ps_ret pe_bl)) pss_nil))) (pss_one (ps_for PassesOwn.never rfl (pi_range1 rfl T.z_range (pa_cons (pe_callB (cr_min2 rfl) (by rfl) T.z_min (by decide +kernel) (pa_cons (pv 10) (pa_cons pe_int pa_nil))) pa_nil)) (pg_name (i := 11) sc_law.nd rfl (Or.inl rfl))
      (pss_one (ps_if (pt_not (k_tru (K := K) rfl (pe_call (ok_L_same_at T 2) (hr.mono (by decide)) (by rfl) T.g_L_same T.F_L_same.kp T.b_L_same .nil pass0 (pa_cons (pe_meth (pv 5) T.C_Fair T.m_Fair_choose (ok_Fair_choose T) (hr.mono (by decide)) T.b_Fair_choose .nil pass0 (pa_cons (pv 9) pa_nil)) (pa_cons (pe_call (ok_L_choose T) (hr.mono (by decide)) (by rfl) T.g_L_choose T.F_L_choose.kp T.b_L_choose .nil pass0 (pa_cons (pv 6) (pa_cons (pv 8) pa_nil))) pa_nil))) (by intro _; rfl))) (pss_one (ps_ret pe_bl)) pss_nil)))))
      (pss_cons (ps_if (PW.pt (pw_or (pt_not (k_tru (K := K) rfl (pe_call (ok_L_same_at T 2) (hr.mono (by decide)) (by rfl) T.g_L_same T.F_L_same.kp T.b_L_same .nil pass0 (pa_cons (pe_callTy (k_tupS (K := K) rfl) (by rfl) T.z_tuple (by decide +kernel) (pa_cons (pe_callTy (k_listS (K := K) rfl) (by rfl) T.z_list (by decide +kernel) (pa_cons (pe_prop (pv 5) T.C_Fair T.P_Fair_tally (ok_Fair_tally T) (hr.mono (by decide)) T.b_Fair_tally .nil pass0 rfl) pa_nil)) pa_nil)) (pa_cons (pe_callTy (k_tupS (K := K) rfl) (by rfl) T.z_tuple (by decide +kernel) (pa_cons (pe_dget (u1 hr.units) (pv 6) pe_str (fun _ _ => rfl)) pa_nil)) pa_nil))) (by intro _; rfl))) (pw_or1 (pt_not (k_tru (K := K) rfl (pe_call (ok_L_fair T) (hr.mono (by decide)) (by rfl) T.g_L_fair T.F_L_fair.kp T.b_L_fair .nil pass0 (pa_cons (pv 6) pa_nil)) (by intro _; rfl)))))) (pss_one (ps_ret pe_bl)) pss_nil)
      (pss_one (ps_if (pt_cmpR (k_neG (K := K) rfl hr.units) (pe_callTy (k_listS (K := K) rfl) (by rfl) T.z_list (by decide +kernel) (pa_cons (pv 9) pa_nil)) (pv 8) (nomark _)) (pss_one (ps_ret pe_bl)) pss_nil)))))))))))
      (pss_cons (ps_set (i := 13) sc_law.nd rfl (Or.inl rfl) (pe_make T.M_Fair (ok_Fair___init__ T) (hr.mono (by decide)) rfl T.gc_Fair T.b_Fair___init__ .nil pass0 (pa_cons (pe_callTy (k_tupS (K := K) rfl) (by rfl) T.z_tuple (by decide +kernel) (pa_cons (pv 3) pa_nil)) pa_nil)))
      (pss_one (ps_ret (pe_and (pe_call (ok_L_same_at T 2) (hr.mono (by decide)) (by rfl) T.g_L_same T.F_L_same.kp T.b_L_same .nil pass0 (pa_cons (pe_callTy (k_tupS (K := K) rfl) (by rfl) T.z_tuple (by decide +kernel) (pa_cons (pe_callTy (k_listS (K := K) rfl) (by rfl) T.z_list (by decide +kernel) (pa_cons (pe_prop (pv 13) T.C_Fair T.P_Fair_tally (ok_Fair_tally T) (hr.mono (by decide)) T.b_Fair_tally .nil pass0 rfl) pa_nil)) pa_nil)) (pa_cons (pe_callTy (k_tupS (K := K) rfl) (by rfl) T.z_tuple (by decide +kernel) (pa_cons (pe_lc (own := [("_law_m", 14)]) (g := gName 14) (tt := tYes) rfl sc_law.nd (pi_range1 rfl T.z_range (pa_cons (pv 2) pa_nil)) (blkOk_by (own := [("_law_m", 14)]) (by kernel_rfl)) (fun _ _ _ _ _ => (pg_name (i := 14) sc_law.nd rfl (by first | exact Or.inl rfl | exact Or.inr rfl))) (fun _ _ _ _ _ => pts_nil) (fun _ _ _ _ _ => pe_int)) pa_nil)) pa_nil))) (pe_one (pe_call (ok_L_same_at T 2) (hr.mono (by decide)) (by rfl) T.g_L_same T.F_L_same.kp T.b_L_same .nil pass0 (pa_cons (pe_callTy (k_tupS (K := K) rfl) (by rfl) T.z_tuple (by decide +kernel) (pa_cons (pe_callTy (k_listS (K := K) rfl) (by rfl) T.z_list (by decide +kernel) (pa_cons (pe_prop (pv 5) T.C_Fair T.P_Fair_tally (ok_Fair_tally T) (hr.mono (by decide)) T.b_Fair_tally .nil pass0 rfl) pa_nil)) pa_nil)) (pa_cons (pe_callTy (k_tupS (K := K) rfl) (by rfl) T.z_tuple (by decide +kernel) (pa_cons (pe_dget (u1 hr.units) (pv 6) pe_str (fun _ _ => rfl)) pa_nil)) pa_nil))))))))))))))))), ?_⟩
    refine go_start (σ' := [some (.ref a), none, none, none, none, none, none, none, none, none, none, none, none, none, none]) rfl ?_
    try dsimp only [cxOf, Cx.nox, Cx.wish]
    walk_at "go"
    refine ⟨_, _, rfl, hS, fun t l H1 ht0 hl0 s1 hT => ?_⟩
    walk_at "go"
    refine ⟨t, l, _, rfl, hT, by omega, fun r H2 r0 r1 f2 hT2 => ?_⟩
    walk_at "go"
    obtain ⟨n, hn, hn0, hn1⟩ : ∃ n : Int, 1 + r = n ∧ 1 ≤ n ∧ n ≤ 12 := ⟨_, rfl, by omega, by omega⟩
    rw [hn]
    obtain ⟨kv2, ht2⟩ := tape_dk hT2
    obtain ⟨cl2, hl2⟩ : ∃ cl : List Int, H2 l = some (.lst (cl.map V.int)) := by
      obtain ⟨cs, _, _, _, _, _, _, h2, _⟩ := hT2
      exact ⟨_, h2⟩
    -- the weights
    refine l_compGR (by omega) (by omega) (fun D i acc H' => Fr t H2 H' ∧ IsTape H' t l ∧ ∃ ws : List Int, acc = ws.map V.int ∧ ws.length = i ∧ ∀ x ∈ ws, 1 ≤ x ∧ x ≤ 1000) (fun _ => rfl)
      (fun D hD => ⟨Fr.same (Same.new hD), hT2.same (Same.new hD), [], rfl, rfl, List.forall_mem_nil _⟩) (fun i H3 D acc NT NF hi hD st e1 hl hTr hFa => ?_) (fun D H3 ys hD st e hl => ?_)
    · obtain ⟨fr, hT3, ws, rfl, hwl, hws⟩ := st
      refine w_tyes ?_
      walk_at "go"
      refine ⟨t, l, _, rfl, hT3, by omega, fun r4 H4 r40 r41 f4 hT4 => ?_⟩
      walk_at "go"
      refine ⟨by show 5 ≤ sizeLine; decide, fun p hp => ?_⟩
      walk_at "go"
      refine ⟨t, l, p, true, _, rfl, hT4.same (Same.new hp), Sq.lst upd_same, by show 0 < 5; omega, by show 5 ≤ 100000; omega, fun x H5 hx f5 hT5 => ?_⟩
      obtain ⟨y, rfl, hy⟩ : ∃ y : Int, x = .int y ∧ 1 ≤ y ∧ y ≤ 1000 := by
        simp only [List.mem_cons, List.not_mem_nil, or_false] at hx
        rcases hx with h | h | h | h | h <;> subst h <;> exact ⟨_, rfl, by omega, by omega⟩
      have hDt : D ≠ t := fun e => by rw [e, ht2] at hD; cases hD
      have hDl : D ≠ l := fun e => by rw [e, hl2] at hD; cases hD
      have f35 : Fr t H3 H5 := (f4.trans (Fr.same (Same.new hp))).trans f5
      refine hTr _ _ (f35 _ _ hDt e1) ⟨?_, hT5.upd hDt hDl, ws ++ [y], by rw [List.map_append]; rfl, by rw [List.length_append, hwl]; rfl, fun m hm => ?_⟩
      · intro c o hc hco
        rw [upd_ne (ne_of_none hco hD)]
        exact f35 _ _ hc (fr _ _ hc hco)
      · rcases List.mem_append.mp hm with h | h
        · exact hws m h
        · rw [List.mem_singleton.mp h]; exact hy
    obtain ⟨f3, hT3, ws, rfl, hwl, hws⟩ := st
    rw [List.length_map] at hl
    have hDt : D ≠ t := fun e => by rw [e, ht2] at hD; cases hD
    have hDl : D ≠ l := fun e => by rw [e, hl2] at hD; cases hD
    walk_at "go"
    -- handed
    refine w_listS (b := true) (Sq.lst e) fun g hg => ?_
    have sg := Same.new (o := .lst (ws.map V.int)) hg
    have eg : (upd H3 g (.lst (ws.map V.int))) g = some (.lst (ws.map V.int)) := upd_same
    have hT4 := hT3.same sg
    have e4 := sg _ _ e
    have hgD : g ≠ D := fun h => by rw [h, e] at hg; cases hg
    generalize upd H3 g (.lst (ws.map V.int)) = H4 at sg eg hT4 e4 ⊢
    walk_at "go"
    -- Fair(handed)
    intro f dx hf hdx hne
    have sB : Same H4 (upd (upd H4 dx (.own f)) f (.ins T.c_Fair dx [])) := (Same.new hdx).trans (Same.new (by rw [upd_ne (Ne.symm hne)]; exact hf))
    refine ⟨f, dx, g, true, ws, rfl, upd_same, Sq.lst (sB _ _ eg), by omega, fun ac H5 f5 hac hF5 => ⟨rfl, ?_⟩⟩
    have hac4 := none_before sB hac
    obtain ⟨kv4, ht4⟩ := tape_dk hT4
    obtain ⟨cl4, hl4⟩ := tape_l hT4
    have hT5 := tape_frame f5 (ne_of_none ht4 hf) (ne_of_none hl4 hf) (hT4.same sB)
    have eg5 := f5 _ _ (ne_of_none eg hf) (sB _ _ eg)
    have eD5 := f5 _ _ (ne_of_none e4 hf) (sB _ _ e4)
    have hlac : l ≠ ac := ne_of_none hl4 hac4
    have hDac : D ≠ ac := ne_of_none e4 hac4
    have hgac : g ≠ ac := ne_of_none eg hac4
    have hgl : g ≠ l := by
      obtain ⟨cl3, hl3⟩ := tape_l hT3
      exact (ne_of_none hl3 hg).symm
    have hgt : g ≠ t := by
      obtain ⟨kv3, ht3⟩ := tape_dk hT3
      exact (ne_of_none ht3 hg).symm
    walk_at "go"
    refine w_append eg5 (line_of1 (by rw [List.length_map]; omega)) ?_
    walk_at "go"
    refine w_setI (ns := ws ++ [5]) (by rw [upd_same, List.map_append]; rfl) (by omega) (by rw [List.length_append]; show (0 : Int) < ((ws.length + 1 : Nat) : Int); omega) ?_
    have f6 : Fr g H5 (upd (upd H5 g (.lst (ws.map V.int ++ [.int 5]))) g (.lst (((ws ++ [5]).set (0 : Int).toNat 100).map V.int))) := ((Fr.refl _ _).upd _).upd _
    generalize upd (upd H5 g (.lst (ws.map V.int ++ [.int 5]))) g (.lst (((ws ++ [5]).set (0 : Int).toNat 100).map V.int)) = H6 at f6 ⊢
    have hT6 := tape_frame f6 (Ne.symm hgt) (Ne.symm hgl) hT5
    have hF6 := fair_frame f6 eg5 (Ne.symm hgac) hF5
    have eD6 := f6 _ _ (Ne.symm hgD) eD5
    clear hF5 hT5 eg5 eD5 f5 f6
    walk_at "go"
    -- the own tallies
    intro wd hwd
    have s7 := Same.new (o := .dK []) hwd
    have ewd7 : (upd H6 wd (.dK [])) wd = some (.dK []) := upd_same
    generalize upd H6 wd (.dK []) = H7 at s7 ewd7 ⊢
    walk_at "go"
    refine c_intsR (by omega) (by omega) (noughts ws) (by rw [noughts_len]; omega) (fun _ => rfl) (fun j H8 M hj s8 hM => ?_) (fun lt H8 hlt s8 elt => ?_)
    · walk_at "go"
      rw [← nth_nought (ws := ws) (i := j) (by omega)]
      exact hM _ (Same.refl _)
    walk_at "go"
    refine ⟨RgOk.of_le (by omega) (by omega) (by omega) (by omega), fun la hla => ?_⟩
    rw [rgV_ints (by omega)]
    generalize hal : ((List.range n.toNat).map fun i => ((i : Nat) : Int)) = al0
    have hal0 : ∀ m ∈ al0, 0 ≤ m ∧ m < ws.length := fun m hm => by
      rw [← hal] at hm
      obtain ⟨i, hi, rfl⟩ := List.mem_map.mp hm
      have := List.mem_range.mp hi
      omega
    have hall : al0.length ≤ 100 := by
      rw [← hal, List.length_map, List.length_range]
      omega
    have s9 := Same.new (o := .lst (al0.map V.int)) hla
    have ela : (upd H8 la (.lst (al0.map V.int))) la = some (.lst (al0.map V.int)) := upd_same
    have hlalt : la ≠ lt := (ne_of_none elt hla).symm
    have elt9 := s9 _ _ elt
    generalize upd H8 la (.lst (al0.map V.int)) = H9 at s9 ela elt9 ⊢
    walk_at "go"
    refine ⟨(s8.trans s9) _ _ ewd7, [(.inr "weights", .ref D), (.inr "tally", .ref lt), (.inr "always", .ref la)], rfl, by show 3 ≤ 15; omega, ?_⟩
    rw [show mergeK [] ([(.inr "weights", .ref D), (.inr "tally", .ref lt), (.inr "always", .ref la)] : List (Key × V)) = [(.inr "weights", .ref D), (.inr "tally", .ref lt), (.inr "always", .ref la)] from by kernel_rfl]
    have s10 : Same H6 (upd H9 wd (.dK [(.inr "weights", .ref D), (.inr "tally", .ref lt), (.inr "always", .ref la)])) := Same.mut ((s7.trans s8).trans s9) hwd
    have ewd9 := (s8.trans s9) _ _ ewd7
    have hac7 : ∃ u, H7 ac = some u := by
      obtain ⟨_, _, _, _, h⟩ := hF6
      exact ⟨_, s7 _ _ h⟩
    obtain ⟨uac, hac7⟩ := hac7
    obtain ⟨kv6, ht6⟩ := tape_dk hT6
    obtain ⟨cl6, hl6⟩ := tape_l hT6
    have S0 : S56 K T.c_Fair (upd H9 wd (.dK [(.inr "weights", .ref D), (.inr "tally", .ref lt), (.inr "always", .ref la)])) t l f ac wd D lt la ws (noughts ws) (noughts ws) al0 :=
      ⟨hT6.same s10, fair_same s10 hF6, ⟨upd_same, s10 _ _ eD6, (upd_ne (fun e => by rw [e, ewd9] at elt9; cases elt9)).trans elt9, (upd_ne (fun e => by rw [e, ewd9] at ela; cases ela)).trans ela⟩,
        (ne_of_none ht6 hwd).symm, hlac, hDac, (ne_of_none hac7 hlt).symm, (ne_of_none (s8 _ _ hac7) hla).symm, ne_of_none (s7 _ _ hl6) hlt, ne_of_none (s7 _ _ eD6) hlt, hlalt⟩
    generalize upd H9 wd (.dK [(.inr "weights", .ref D), (.inr "tally", .ref lt), (.inr "always", .ref la)]) = H10 at S0 ⊢
    clear s10 ewd9 hac7 ht6 hl6 elt9 ela s9 s8 s7 hT6 hF6 eD6
    have ok0 : FairOk ws (noughts ws) := ⟨noughts_len ws, by omega, hws⟩
    walk_at "go"
    refine ⟨t, l, _, rfl, S0.tp, by omega, fun r11 H11 r110 r111 f11 hT11 => ?_⟩
    have S1 := S0.draw f11 hT11
    walk_at "go"
    have hnw : n = (ws.length : Int) := by omega
    refine l_range (fun i σ H' => ∃ (y7 y8 y9 y10 y11 y12 y14 : Option V) (la : Addr) (cs al : List Int), σ = [some (.ref a), some (.ref t), some (.int n), some (.ref D), some (.ref g), some (.ref f), some (.ref wd), y7, y8, y9, y10, y11, y12, none, y14] ∧ S56 K T.c_Fair H' t l f ac wd D lt la ws cs cs al ∧ FairOk ws cs ∧ FairNow ws cs al ∧ (∀ m ∈ al, 0 ≤ m ∧ m < ws.length) ∧ al.length ≤ 100)
      (by omega) (by omega) ⟨_, _, _, _, _, _, _, la, _, al0, rfl, S1, ok0, fair_nought ws al0 hal0 hws, hal0, hall⟩ ?_ ?_
    · clear S1 S0 hT11 f11 ok0 hal0 hall hal hlalt
      rintro i σ H12 hi ⟨y7, y8, y9, y10, y11, y12, y14, la, cs, al, rfl, S2, ok, hfn, hal1, hall1⟩
      walk_at "go"
      -- members
      refine ⟨t, l, _, rfl, S2.tp, by omega, by omega, fun mm ms H13 hmm f13 hT13 emm hm0 hmz hmb => ?_⟩
      have S3 := S2.draw f13 hT13
      have hmac := ne_of_none S2.acl hmm
      have hmlt := ne_of_none S2.wo.2.2.1 hmm
      walk_at "go"
      refine w_cut (fun σ H' => ∃ (mm : Addr) (ms : List Int), σ = [some (.ref a), some (.ref t), some (.int n), some (.ref D), some (.ref g), some (.ref f), some (.ref wd), some (.int (i : Nat)), some (.ref mm), y9, y10, y11, y12, none, y14] ∧ S56 K T.c_Fair H' t l f ac wd D lt la ws cs cs al ∧ H' mm = some (.lst (ms.map V.int)) ∧ ac ≠ mm ∧ lt ≠ mm ∧ ms.length ≤ 100 ∧ ∀ m ∈ ms, 0 ≤ m ∧ m < ws.length) ?_ ?_
      · walk_at "go"
        refine ⟨t, l, _, rfl, S3.tp, by omega, fun r14 H14 _ _ f14 hT14 => ?_⟩
        have S4 := S3.draw f14 hT14
        obtain ⟨kv13, ht13⟩ := tape_dk S3.tp
        have emm4 := f14 _ _ (fun e => by rw [e, ht13] at emm; cases emm) emm
        walk_at "go"
        refine w_iteD (fun _ => ?_) (fun _ => ?_)
        · have w1 := S4.wo.1
          walk_at "go"
          refine w_listS (b := true) (Sq.lst S4.wo.2.2.2) fun p hp => ?_
          walk_at "go"
          exact ⟨p, al, rfl, S4.same (Same.new hp), upd_same, ne_of_none S4.acl hp, ne_of_none S4.wo.2.2.1 hp, hall1, hal1⟩
        · walk_at "go"
          exact ⟨mm, ms, rfl, S4, emm4, hmac, hmlt, hmz, fun m hm => by have := hmb m hm; omega⟩
      clear emm hm0 hmz hmb hmac hmlt S3 f13 hT13 hmm
      rintro σ H14 ⟨mm, ms, rfl, S4, emm, hmac, hmlt, hmz, hmb⟩
      refine w_cut (fun σ H' => ∃ (mm : Addr) (ms : List Int), σ = [some (.ref a), some (.ref t), some (.int n), some (.ref D), some (.ref g), some (.ref f), some (.ref wd), some (.int (i : Nat)), some (.ref mm), y9, y10, y11, y12, none, y14] ∧ S56 K T.c_Fair H' t l f ac wd D lt la ws cs cs al ∧ H' mm = some (.lst (ms.map V.int)) ∧ ac ≠ mm ∧ lt ≠ mm ∧ 0 < ms.length ∧ ms.length ≤ 100 ∧ ∀ m ∈ ms, 0 ≤ m ∧ m < ws.length) ?_ ?_
      · walk_at "go"
        refine ⟨Nat.zero_le _, fun p hp => ?_⟩
        have s15 := Same.new (o := .lst []) hp
        refine w_eqNil (Sq.lst (s15 _ _ emm)) (Sq.lst upd_same) ?_
        have S5 := S4.same s15
        have emm5 := s15 _ _ emm
        generalize upd H14 p (.lst []) = H15 at S5 emm5 ⊢
        walk_at "go"
        refine w_iteB (fun hb => ?_) (fun hb => ?_)
        · walk_at "go"
          refine ⟨by show 1 ≤ sizeLine; decide, fun p hp => ?_⟩
          walk_at "go"
          exact ⟨p, [0], rfl, S5.same (Same.new hp), upd_same, ne_of_none S5.acl hp, ne_of_none S5.wo.2.2.1 hp, by show 0 < 1; omega, by show 1 ≤ 100; omega, fun m hm => by rw [List.mem_singleton.mp hm]; omega⟩
        · walk_at "go"
          have h0 : 0 < ms.length := by
            cases ms with
            | nil => cases hb
            | cons x r => exact Nat.zero_lt_succ _
          exact ⟨mm, ms, rfl, S5, emm5, hmac, hmlt, h0, hmz, hmb⟩
      clear emm hmz hmb hmac hmlt S4
      rintro σ H15 ⟨mm, ms, rfl, S5, emm, hmac, hmlt, hm0, hmz, hmb⟩
      -- passed
      walk_at "go"
      refine w_listS (b := true) (Sq.lst emm) fun p1 hp1 => ?_
      have s16 := Same.new (o := .lst (ms.map V.int)) hp1
      have ep1 : (upd H15 p1 (.lst (ms.map V.int))) p1 = some (.lst (ms.map V.int)) := upd_same
      have emm1 := s16 _ _ emm
      generalize upd H15 p1 (.lst (ms.map V.int)) = H16 at s16 ep1 emm1 ⊢
      walk_at "go"
      refine w_tupL (Sq.lst emm1) fun p2 hp2 => ?_
      have s17 := Same.new (o := .tup (ms.map V.int)) hp2
      have ep2 : (upd H16 p2 (.tup (ms.map V.int))) p2 = some (.tup (ms.map V.int)) := upd_same
      generalize upd H16 p2 (.tup (ms.map V.int)) = H17 at s17 ep2 ⊢
      walk_at "go"
      refine ⟨by show 2 ≤ sizeLine; decide, fun p3 hp3 => ?_⟩
      have s18 := Same.new (o := .lst [.ref p1, .ref p2]) hp3
      have ep3 : (upd H17 p3 (.lst [.ref p1, .ref p2])) p3 = some (.lst [.ref p1, .ref p2]) := upd_same
      generalize upd H17 p3 (.lst [.ref p1, .ref p2]) = H18 at s18 ep3 ⊢
      have S6 := S5.same ((s16.trans s17).trans s18)
      walk_at "go"
      refine ⟨t, l, p3, true, _, rfl, S6.tp, Sq.lst ep3, by show 0 < 2; omega, by show 2 ≤ 100000; omega, fun x H19 hx f19 hT19 => ?_⟩
      have S7 := S6.draw f19 hT19
      obtain ⟨kv18, ht18⟩ := tape_dk S6.tp
      have emm19 := f19 _ _ (fun e => by have h := ((s16.trans s17).trans s18) _ _ emm; rw [e, ht18] at h; cases h) (((s16.trans s17).trans s18) _ _ emm)
      obtain ⟨pp, b, rfl, hpp, hpac, hplt⟩ : ∃ (pp : Addr) (b : Bool), x = .ref pp ∧ Sq b K H19 pp (ms.map V.int) ∧ pp ≠ ac ∧ pp ≠ lt := by
        simp only [List.mem_cons, List.not_mem_nil, or_false] at hx
        rcases hx with rfl | rfl
        · exact ⟨p1, true, rfl, Sq.lst (f19 _ _ (fun e => by have h := (s17.trans s18) _ _ ep1; rw [e, ht18] at h; cases h) ((s17.trans s18) _ _ ep1)), (ne_of_none S5.acl hp1).symm, (ne_of_none S5.wo.2.2.1 hp1).symm⟩
        · exact ⟨p2, false, rfl, Sq.tup (f19 _ _ (fun e => by have h := s18 _ _ ep2; rw [e, ht18] at h; cases h) (s18 _ _ ep2)), (ne_of_none (s16 _ _ S5.acl) hp2).symm, (ne_of_none (s16 _ _ S5.wo.2.2.1) hp2).symm⟩
      clear ht18 hx f19 hT19 S6 ep3 s18 ep2 s17 emm1 ep1 s16 hp1 hp2 hp3 S5 emm
      walk_at "go"
      -- budget
      refine ⟨t, l, _, rfl, S7.tp, by omega, fun r20 H20 r200 r201 f20 hT20 => ?_⟩
      have S8 := S7.draw f20 hT20
      obtain ⟨kv19, ht19⟩ := tape_dk S7.tp
      have emm20 := f20 _ _ (fun e => by rw [e, ht19] at emm19; cases emm19) emm19
      have hpp20 := f20.sq ⟨_, ht19⟩ hpp
      walk_at "go"
      refine ⟨by show 5 ≤ sizeLine; decide, fun p4 hp4 => ?_⟩
      have s21 := Same.new (o := .lst [.int 0, .int 1, .int 2, .int 5, .int r20]) hp4
      have ep4 : (upd H20 p4 (.lst [.int 0, .int 1, .int 2, .int 5, .int r20])) p4 = some (.lst [.int 0, .int 1, .int 2, .int 5, .int r20]) := upd_same
      generalize upd H20 p4 (.lst [.int 0, .int 1, .int 2, .int 5, .int r20]) = H21 at s21 ep4 ⊢
      have S9 := S8.same s21
      have emm21 := s21 _ _ emm20
      have hpp21 := s21.sq hpp20
      walk_at "go"
      refine ⟨t, l, p4, true, _, rfl, S9.tp, Sq.lst ep4, by show 0 < 5; omega, by show 5 ≤ 100000; omega, fun x H22 hx f22 hT22 => ?_⟩
      have S10 := S9.draw f22 hT22
      obtain ⟨kv21, ht21⟩ := tape_dk S9.tp
      have emm22 := f22 _ _ (fun e => by rw [e, ht21] at emm21; cases emm21) emm21
      have hpp22 := f22.sq ⟨_, ht21⟩ hpp21
      obtain ⟨z, rfl, hz0, hz1⟩ : ∃ z : Int, x = .int z ∧ 0 ≤ z ∧ z ≤ 41 := by
        simp only [List.mem_cons, List.not_mem_nil, or_false] at hx
        rcases hx with h | h | h | h | h <;> subst h <;> exact ⟨_, rfl, by omega, by omega⟩
      clear S9 S8 S7 ht21 ht19 emm21 emm20 emm19 hpp hpp20 hpp21 s21 ep4 hx f22 hT22 f20 hT20
      have w1 := S10.wo.1
      have ela := S10.wo.2.2.2
      walk_at "go"
      refine l_compGS (b := true) (al.map V.int) (line_of1 (by rw [List.length_map]; omega)) (fun D' j acc H' => Same H22 H' ∧ ∃ al' : List Int, acc = al'.map V.int ∧ (∀ m ∈ al', m ∈ al) ∧ (z ≠ 0 → ∀ m ∈ al', m ∈ ms)) (Sq.lst ela) (fun _ => rfl)
        (fun D' hD => ⟨Same.new hD, [], rfl, List.forall_mem_nil _, fun _ => List.forall_mem_nil _⟩) (fun D' j acc H' st => st.1.sq (Sq.lst ela)) (fun j x H23 D' acc NT NF hj hx hD st e1 hl hTr hFa => ?_) (fun la' H23 ys hD st e hl => ?_)
      · obtain ⟨s23, al', rfl, ha1, ha2⟩ := st
        obtain ⟨rfl, hj1⟩ := vec_at hx
        have hmi := nth_mem (ns := al) (i := ((j : Nat) : Int)) (by omega) (by omega)
        generalize nth al ((j : Nat) : Int) = m at hmi ⊢
        have put : (z ≠ 0 → m ∈ ms) → NT (.int m) H23 := fun hq => hTr _ _ e1 ⟨Same.mut s23 hD, al' ++ [m], by rw [List.map_append]; rfl, fun m' hm' => by
            rcases List.mem_append.mp hm' with h | h
            · exact ha1 _ h
            · rw [List.mem_singleton.mp h]; exact hmi, fun hz m' hm' => by
            rcases List.mem_append.mp hm' with h | h
            · exact ha2 hz _ h
            · rw [List.mem_singleton.mp h]; exact hq hz⟩
        walk_at "go"
        refine w_notInS (b := true) (Sq.lst (s23 _ _ emm22)) rfl (flat_ints ms) ?_
        rw [inV_ints]
        walk_at "go"
        show if decide (m ∈ ms) = true then _ else _
        refine w_iteD (fun hin => ?_) (fun hin => ?_)
        · walk_at "go"
          exact put fun _ => hin
        · walk_at "go"
          refine w_iteD (fun hz => ?_) (fun hz => ?_)
          · walk_at "go"
            exact put fun h => absurd hz h
          · exact hFa _ e1 ⟨s23, al', rfl, ha1, ha2⟩
      obtain ⟨s23, al', rfl, ha1, ha2⟩ := st
      rw [List.length_map, List.length_map] at hl
      have S11 := S10.same s23
      have w2 := S11.wo.1
      have S12 := S11.always e (ne_of_none S10.acl hD).symm (ne_of_none S10.wo.2.2.1 hD).symm
      obtain ⟨u24, hu24⟩ : ∃ u, H23 wd = some u := ⟨_, w2⟩
      have emm24 : (upd H23 wd (.dK [(.inr "weights", .ref D), (.inr "tally", .ref lt), (.inr "always", .ref la')])) mm = some (.lst (ms.map V.int)) := (upd_ne (fun e => by have h := s23 _ _ emm22; rw [e, w2] at h; cases h)).trans (s23 _ _ emm22)
      have hpp24 : Sq b K (upd H23 wd (.dK [(.inr "weights", .ref D), (.inr "tally", .ref lt), (.inr "always", .ref la')])) pp (ms.map V.int) := ((Fr.refl wd H23).upd _).sq ⟨_, w2⟩ (s23.sq hpp22)
      walk_at "go"
      refine w_dputAt w2 (by walk_at "dl") world_put ?_
      generalize upd H23 wd (.dK [(.inr "weights", .ref D), (.inr "tally", .ref lt), (.inr "always", .ref la')]) = H24 at S12 emm24 hpp24 ⊢
      have hfn' : FairNow ws cs al' := fun i hi j hj => hfn i (ha1 i hi) j (ha1 j hj)
      have hal' : ∀ m ∈ al', 0 ≤ m ∧ m < ws.length := fun m hm => hal1 m (ha1 m hm)
      have hall' : al'.length ≤ 100 := by omega
      clear S11 S10 w1 w2 hu24 emm22 hpp22 ela e hD s23 hfn hal1
      walk_at "go"
      refine w_cut (fun σ H' => ∃ (y11 y12 y14 : Option V) (nn : Nat), σ = [some (.ref a), some (.ref t), some (.int n), some (.ref D), some (.ref g), some (.ref f), some (.ref wd), some (.int (i : Nat)), some (.ref mm), some (.ref pp), some (.int z), y11, y12, none, y14] ∧ (z = 0 → nn = 0) ∧ S56 K T.c_Fair H' t l f ac wd D lt la' ws (afterN ws ms nn cs) (afterN ws ms nn cs) al' ∧ H' mm = some (.lst (ms.map V.int)) ∧ Sq b K H' pp (ms.map V.int)) ?_ ?_
      · walk_at "go"
        refine ⟨t, l, _, rfl, S12.tp, by omega, fun r25 H25 _ _ f25 hT25 => ?_⟩
        have S13 := S12.draw f25 hT25
        obtain ⟨kv24, ht24⟩ := tape_dk S12.tp
        have emm25 := f25 _ _ (fun e => by rw [e, ht24] at emm24; cases emm24) emm24
        have hpp25 := f25.sq ⟨_, ht24⟩ hpp24
        clear S12 ht24 emm24 hpp24 f25 hT25
        have elt := S13.wo.2.2.1
        have eac := S13.acl
        walk_at "go"
        refine w_iteD (fun _ => ?_) (fun _ => ?_)
        · walk_at "go"
          refine l_compGR (by omega) (by omega) (fun D' j acc H' => D' ≠ lt ∧ Fr lt H25 H' ∧ H' lt = some (.lst ((afterN ws ms j cs).map V.int)) ∧ acc.length = j ∧ ∀ (q : Nat) y, acc[q]? = some y → ROne K H' y (choiceAt ws ms cs q)) (fun _ => rfl)
            (fun D' hD => ⟨(ne_of_none elt hD).symm, Fr.same (Same.new hD), (upd_ne (ne_of_none elt hD)).trans elt, rfl, fun q y e => by simp at e⟩) (fun j H1 D' acc NT NF hj hD st e1 hl hTr hFa => ?_) (fun D' H27 ys hD st e hl => ?_)
          · obtain ⟨hDa, fr, hlt1, hacl, hit⟩ := st
            have S1 := S13.own fr hlt1
            have emm1 := fr _ _ (Ne.symm hmlt) emm25
            refine w_tyes ?_
            walk_at "go"
            refine ⟨wd, D, lt, la', mm, true, ws, _, al', ms, rfl, S1.wo, afterN_ok ok j, Sq.lst emm1, hm0, hmb, ?_⟩
            walk_at "go"
            refine ⟨(by show 2 ≤ sizeLine; decide), fun p hp => ?_⟩
            rw [show chosenBy ws (afterN ws ms j cs) ms = choiceAt ws ms cs j from rfl] at hp ⊢
            have e2 : (upd H1 lt (.lst ((oneMore (afterN ws ms j cs) (choiceAt ws ms cs j)).map V.int))) lt = some (.lst ((afterN ws ms (j + 1) cs).map V.int)) := upd_same
            have f2 : Fr lt H1 (upd H1 lt (.lst ((oneMore (afterN ws ms j cs) (choiceAt ws ms cs j)).map V.int))) := (Fr.refl lt H1).upd _
            generalize upd H1 lt (.lst ((oneMore (afterN ws ms j cs) (choiceAt ws ms cs j)).map V.int)) = H2 at hp e2 f2 ⊢
            have hD2 := f2 _ _ hDa e1
            have s3 := Same.new (o := .tup [.int (choiceAt ws ms cs j), .int 1]) hp
            have hp3 : (upd H2 p (.tup [.int (choiceAt ws ms cs j), .int 1])) p = some (.tup [.int (choiceAt ws ms cs j), .int 1]) := upd_same
            generalize upd H2 p (.tup [.int (choiceAt ws ms cs j), .int 1]) = H3 at s3 hp3 ⊢
            have hD3 := s3 _ _ hD2
            refine hTr _ _ hD3 ⟨hDa, ?_, (upd_ne (Ne.symm hDa)).trans (s3 _ _ e2), by rw [List.length_append, hacl]; rfl, fun q y hq => ?_⟩
            · intro c o hca hco
              have hcD : c ≠ D' := ne_of_none hco hD
              rw [upd_ne hcD]
              exact s3 _ _ (f2 _ _ hca (fr _ _ hca hco))
            · by_cases hlt : q < acc.length
              · rw [List.getElem?_append_left hlt] at hq
                obtain ⟨u, e, hu⟩ := hit q y hq
                have hua : u ≠ lt := fun e => by rw [e, hlt1] at hu; cases hu
                have huD : u ≠ D' := fun e => by rw [e, e1] at hu; cases hu
                exact ⟨u, e, (upd_ne huD).trans (s3 _ _ (f2 _ _ hua hu))⟩
              · have h3 := (List.getElem?_eq_some_iff.mp hq).1
                rw [List.length_append] at h3
                have ej : q = acc.length := by
                  have : q < acc.length + 1 := h3
                  omega
                subst ej
                rw [List.getElem?_append_right (Nat.le_refl _), Nat.sub_self] at hq
                cases hq
                have hpD : p ≠ D' := fun e => by rw [e, hD3] at hp3; cases hp3
                rw [hacl]
                exact ⟨p, rfl, (upd_ne hpD).trans hp3⟩
          obtain ⟨hDa, f27, elt27, hyl, hit⟩ := st
          have S14 := S13.own f27 elt27
          have emm27 := f27 _ _ (Ne.symm hmlt) emm25
          have hpp27 := Fr.sqN f27 hplt hpp25
          walk_at "go"
          refine w_tupL (Sq.lst e) fun t2 ht2 => ?_
          have s28 := Same.new (o := .tup ys) ht2
          have et2 : (upd H27 t2 (.tup ys)) t2 = some (.tup ys) := upd_same
          generalize upd H27 t2 (.tup ys) = H28 at s28 et2 ⊢
          have S15 := S14.same s28
          have emm28 := s28 _ _ emm27
          have hpp28 := s28.sq hpp27
          have hit28 : ∀ (q : Nat) y, ys[q]? = some y → ROne K H28 y (choiceAt ws ms cs q) := fun q y h => by
            obtain ⟨u, e, hu⟩ := hit q y h
            exact ⟨u, e, s28 _ _ hu⟩
          clear S14 S13 emm25 emm27 hpp25 hpp27 hit e elt eac
          obtain ⟨dx8, aw8, h8, hw8, hc8⟩ := id S15.fa
          unfold FairF at h8
          walk_at "go"
          refine ⟨f, ac, pp, b, ws, cs, ms, z, rfl, S15.fa, ok, hpp28, hpac, hm0, hmb, hz0, by omega, fun tp yp H29 f29 eac29 etp hypl hitp => ?_⟩
          have S16 := S15.chose f29 eac29
          have et29 := f29 _ _ (fun e => by rw [e, hc8] at et2; cases et2) et2
          have hit29 : ∀ (q : Nat) y, ys[q]? = some y → ROne K H29 y (choiceAt ws ms cs q) := fun q y h => one_fr f29 hc8 (hit28 q y h)
          walk_at "go"
          refine ⟨_, _, rfl, ones_sm etp et29 (by omega) (by omega) hitp hit29, ?_⟩
          walk_at "go"
          exact ⟨_, _, _, z.toNat, rfl, fun h => by omega, S16, f29 _ _ (Ne.symm hmac) emm28, Fr.sqN f29 hpac hpp28⟩
        · walk_at "go"
          have hb9 : (if (9 : Int) < z then (9 : Int) else z) ≤ 9 ∧ 0 ≤ (if (9 : Int) < z then (9 : Int) else z) := by split <;> omega
          refine l_range (fun j σ H' => ∃ (y11 : Option V), σ = [some (.ref a), some (.ref t), some (.int n), some (.ref D), some (.ref g), some (.ref f), some (.ref wd), some (.int (i : Nat)), some (.ref mm), some (.ref pp), some (.int z), y11, y12, none, y14] ∧ S56 K T.c_Fair H' t l f ac wd D lt la' ws (afterN ws ms j cs) (afterN ws ms j cs) al' ∧ H' mm = some (.lst (ms.map V.int)) ∧ Sq b K H' pp (ms.map V.int))
            (by omega) (by omega) ⟨_, rfl, S13, emm25, hpp25⟩ ?_ ?_
          · clear S13 emm25 hpp25 elt eac
            rintro j σ H26 hj ⟨y11, rfl, S14, emm26, hpp26⟩
            obtain ⟨dx8, aw8, h8, hw8, hc8⟩ := id S14.fa
            unfold FairF at h8
            walk_at "go"
            refine ⟨f, ac, pp, b, ws, _, ms, rfl, S14.fa, afterN_ok ok j, hpp26, hm0, hmb, ?_⟩
            have f27 := (Fr.refl ac H26).upd (.lst ((oneMore (afterN ws ms j cs) (chosenBy ws (afterN ws ms j cs) ms)).map V.int))
            have S15 := S14.chose (cs' := afterN ws ms (j + 1) cs) f27 upd_same
            generalize upd H26 ac (.lst ((oneMore (afterN ws ms j cs) (chosenBy ws (afterN ws ms j cs) ms)).map V.int)) = H27 at f27 S15 ⊢
            have emm27 := f27 _ _ (Ne.symm hmac) emm26
            have hpp27 := Fr.sqN f27 hpac hpp26
            clear h8 hw8 hc8
            walk_at "go"
            refine ⟨wd, D, lt, la', mm, true, ws, _, al', ms, rfl, S15.wo, afterN_ok ok j, Sq.lst emm27, hm0, hmb, ?_⟩
            have f28 := (Fr.refl lt H27).upd (.lst ((oneMore (afterN ws ms j cs) (chosenBy ws (afterN ws ms j cs) ms)).map V.int))
            have S16 := S15.own (cs' := afterN ws ms (j + 1) cs) f28 upd_same
            generalize upd H27 lt (.lst ((oneMore (afterN ws ms j cs) (chosenBy ws (afterN ws ms j cs) ms)).map V.int)) = H28 at f28 S16 ⊢
            walk_at "go"
            refine ⟨_, _, rfl, SmB.int, ?_⟩
            walk_at "go"
            exact ⟨_, rfl, S16, f28 _ _ (Ne.symm hmlt) emm27, Fr.sqN f28 hplt hpp27⟩
          · rintro σ H26 ⟨y11, rfl, S14, emm26, hpp26⟩
            walk_at "go"
            exact ⟨_, _, _, _, rfl, fun h => by rw [h]; rfl, S14, emm26, hpp26⟩
      rintro σ H26 ⟨y11, y12, y14, nn, rfl, hnn, S14, emm26, hpp26⟩
      clear S12 emm24 hpp24
      have okn := afterN_ok (ms := ms) ok nn
      have hfin : FairNow ws (afterN ws ms nn cs) al' := by
        by_cases hz : z = 0
        · rw [hnn hz]
          exact hfn'
        · exact fair_steps hm0 hmb ok (ha2 hz) hfn' nn
      have hln := afterN_len (ms := ms) ok nn
      generalize afterN ws ms nn cs = cs' at S14 okn hfin hln
      obtain ⟨dx8, aw8, h8, hw8, hc8⟩ := id S14.fa
      unfold FairF at h8
      walk_at "go"
      refine ⟨f, ac, ws, cs', rfl, S14.fa, fun t1 ht1 => ?_⟩
      have s27 := Same.new (o := .tup (cs'.map V.int)) ht1
      have et1 : (upd H26 t1 (.tup (cs'.map V.int))) t1 = some (.tup (cs'.map V.int)) := upd_same
      generalize upd H26 t1 (.tup (cs'.map V.int)) = H27 at s27 et1 ⊢
      walk_at "go"
      refine w_listS (b := false) (Sq.tup et1) fun l2 hl2 => ?_
      have s28 := Same.new (o := .lst (cs'.map V.int)) hl2
      have el2 : (upd H27 l2 (.lst (cs'.map V.int))) l2 = some (.lst (cs'.map V.int)) := upd_same
      generalize upd H27 l2 (.lst (cs'.map V.int)) = H28 at s28 el2 ⊢
      walk_at "go"
      refine w_tupL (Sq.lst el2) fun t3 ht3 => ?_
      have s29 := Same.new (o := .tup (cs'.map V.int)) ht3
      have et3 : (upd H28 t3 (.tup (cs'.map V.int))) t3 = some (.tup (cs'.map V.int)) := upd_same
      generalize upd H28 t3 (.tup (cs'.map V.int)) = H29 at s29 et3 ⊢
      have S15 := S14.same ((s27.trans s28).trans s29)
      have w9 := S15.wo.1
      walk_at "go"
      refine w_tupL (Sq.lst S15.wo.2.2.1) fun t4 ht4 => ?_
      have s30 := Same.new (o := .tup (cs'.map V.int)) ht4
      have et4 : (upd H29 t4 (.tup (cs'.map V.int))) t4 = some (.tup (cs'.map V.int)) := upd_same
      generalize upd H29 t4 (.tup (cs'.map V.int)) = H30 at s30 et4 ⊢
      have S16 := S15.same s30
      have s2630 := ((s27.trans s28).trans s29).trans s30
      have emm30 := s2630 _ _ emm26
      have hpp30 := s2630.sq hpp26
      walk_at "go"
      refine ⟨_, _, rfl, SmB.vec hln ⟨t3, rfl, Sq.tup (s30 _ _ et3)⟩ ⟨t4, rfl, Sq.tup et4⟩, ?_⟩
      clear et3 et4 w9 S15 S14 s27 s28 s29 s30 s2630 emm26 hpp26 h8 hw8 hc8 el2 et1
      walk_at "go"
      refine ⟨wd, D, lt, la', ws, cs', al', rfl, S16.wo, okn, hal', by omega, hfin, ?_⟩
      walk_at "go"
      refine w_listS (b := b) hpp30 fun l5 hl5 => ?_
      have s31 := Same.new (o := .lst (ms.map V.int)) hl5
      walk_at "go"
      refine w_neInts (ns := ms) (Sq.lst upd_same) (Sq.lst (s31 _ _ emm30)) ?_
      walk_at "go"
      exact ⟨_, _, _, _, _, _, _, la', _, al', rfl, S16.same s31, okn, hfin, hal', hall'⟩
    · clear S1 S0 hT11 f11 ok0 hal0 hall hal hlalt
      rintro σ H12 ⟨y7, y8, y9, y10, y11, y12, y14, la, cs, al, rfl, S2, ok, hfn, hal1, hall1⟩
      have hcl : cs.length ≤ 100000 := by
        have := ok.len
        omega
      walk_at "go"
      refine w_tupL (Sq.lst S2.wo.2.1) fun tw htw => ?_
      have s13 := Same.new (o := .tup (ws.map V.int)) htw
      have etw : (upd H12 tw (.tup (ws.map V.int))) tw = some (.tup (ws.map V.int)) := upd_same
      generalize upd H12 tw (.tup (ws.map V.int)) = H13 at s13 etw ⊢
      walk_at "go"
      intro f2 dx2 hf2 hdx2 hne2
      have sB2 : Same H13 (upd (upd H13 dx2 (.own f2)) f2 (.ins T.c_Fair dx2 [])) := (Same.new hdx2).trans (Same.new (by rw [upd_ne (Ne.symm hne2)]; exact hf2))
      refine ⟨f2, dx2, tw, false, ws, rfl, upd_same, Sq.tup (sB2 _ _ etw), by omega, fun ac2 H14 f14 hac2 hF2 => ⟨rfl, ?_⟩⟩
      have s14 : Same H13 H14 := fun c o hc => f14 _ _ (ne_of_none hc hf2) (sB2 _ _ hc)
      have S3 := S2.same (s13.trans s14)
      clear S2 sB2 f14 hac2 s14 s13 etw
      obtain ⟨dx8, aw8, h8, hw8, hc8⟩ := id hF2
      unfold FairF at h8
      walk_at "go"
      refine ⟨f2, ac2, ws, _, rfl, hF2, fun t1 ht1 => ?_⟩
      have nl := noughts_len ws
      have s27 := Same.new (o := .tup ((noughts ws).map V.int)) ht1
      have et1 : (upd H14 t1 (.tup ((noughts ws).map V.int))) t1 = some (.tup ((noughts ws).map V.int)) := upd_same
      generalize upd H14 t1 (.tup ((noughts ws).map V.int)) = H15 at s27 et1 ⊢
      walk_at "go"
      refine w_listS (b := false) (Sq.tup et1) fun l2 hl2 => ?_
      have s28 := Same.new (o := .lst ((noughts ws).map V.int)) hl2
      have el2 : (upd H15 l2 (.lst ((noughts ws).map V.int))) l2 = some (.lst ((noughts ws).map V.int)) := upd_same
      generalize upd H15 l2 (.lst ((noughts ws).map V.int)) = H16 at s28 el2 ⊢
      walk_at "go"
      refine w_tupL (Sq.lst el2) fun t3 ht3 => ?_
      have s29 := Same.new (o := .tup ((noughts ws).map V.int)) ht3
      have et3 : (upd H16 t3 (.tup ((noughts ws).map V.int))) t3 = some (.tup ((noughts ws).map V.int)) := upd_same
      generalize upd H16 t3 (.tup ((noughts ws).map V.int)) = H17 at s29 et3 ⊢
      walk_at "go"
      refine c_intsR (by omega) (by omega) (noughts ws) (by omega) (fun _ => rfl) (fun j H8 M hj s8 hM => ?_) (fun t4 H18 ht4 s30 et4 => ?_)
      · walk_at "go"
        rw [← nth_nought (ws := ws) (i := j) (by omega)]
        exact hM _ (Same.refl _)
      walk_at "go"
      refine w_tupL (Sq.lst et4) fun t5 ht5 => ?_
      have s31 := Same.new (o := .tup ((noughts ws).map V.int)) ht5
      have et5 : (upd H18 t5 (.tup ((noughts ws).map V.int))) t5 = some (.tup ((noughts ws).map V.int)) := upd_same
      generalize upd H18 t5 (.tup ((noughts ws).map V.int)) = H19 at s31 et5 ⊢
      walk_at "go"
      refine ⟨_, _, rfl, SmB.vec (by omega) ⟨t3, rfl, Sq.tup ((s30.trans s31) _ _ et3)⟩ ⟨t5, rfl, Sq.tup et5⟩, ?_⟩
      have S4 := S3.same ((((s27.trans s28).trans s29).trans s30).trans s31)
      clear h8 hw8 hc8 hF2 et1 el2 et3 et4 et5 s27 s28 s29 s30 s31 S3
      obtain ⟨dx8, aw8, h8, hw8, hc8⟩ := id S4.fa
      unfold FairF at h8
      walk_at "go"
      refine ⟨f, ac, ws, _, rfl, S4.fa, fun t1 ht1 => ?_⟩
      have s27 := Same.new (o := .tup (cs.map V.int)) ht1
      have et1 : (upd H19 t1 (.tup (cs.map V.int))) t1 = some (.tup (cs.map V.int)) := upd_same
      generalize upd H19 t1 (.tup (cs.map V.int)) = H20 at s27 et1 ⊢
      walk_at "go"
      refine w_listS (b := false) (Sq.tup et1) fun l2 hl2 => ?_
      have s28 := Same.new (o := .lst (cs.map V.int)) hl2
      have el2 : (upd H20 l2 (.lst (cs.map V.int))) l2 = some (.lst (cs.map V.int)) := upd_same
      generalize upd H20 l2 (.lst (cs.map V.int)) = H21 at s28 el2 ⊢
      walk_at "go"
      refine w_tupL (Sq.lst el2) fun t3 ht3 => ?_
      have s29 := Same.new (o := .tup (cs.map V.int)) ht3
      have et3 : (upd H21 t3 (.tup (cs.map V.int))) t3 = some (.tup (cs.map V.int)) := upd_same
      generalize upd H21 t3 (.tup (cs.map V.int)) = H22 at s29 et3 ⊢
      have S15 := S4.same ((s27.trans s28).trans s29)
      have w9 := S15.wo.1
      walk_at "go"
      refine w_tupL (Sq.lst S15.wo.2.2.1) fun t4 ht4 => ?_
      have s30 := Same.new (o := .tup (cs.map V.int)) ht4
      walk_at "go"
      refine ⟨_, _, rfl, SmB.vec hcl ⟨t3, rfl, Sq.tup (s30 _ _ et3)⟩ ⟨t4, rfl, Sq.tup upd_same⟩, ?_⟩
      walk_at "go"
      exact k _

end
theorem all_mk {l : PySem.W.OpenLaw} {w : World} {K : PySem.W.Frag} {h : Heap} {mg : Str → Option Value} {fa CFair fFair___init__ fFair_tally PFair_tally fFair_is_ahead fFair_choose fFair_plan fL_mixed fL_tape fL_draw fL_pick fL_same fL_choose fL_members fL_fair flaw : Addr} (X : K.In h) (G : h.Ns mainGlobals mg) (hfa : mg "law" = some (.ref fa))
    {odFair___init__ anFair___init__ odFair_tally anFair_tally odFair_is_ahead anFair_is_ahead odFair_choose anFair_choose odFair_plan anFair_plan odL_mixed anL_mixed odL_tape anL_tape odL_draw anL_draw odL_pick anL_pick odL_same anL_same odL_choose anL_choose odL_members anL_members odL_fair anL_fair odlaw anlaw : Option Addr} {slFair___init__ slFair_tally slFair_is_ahead slFair_choose slFair_plan slL_mixed slL_tape slL_draw slL_pick slL_same slL_choose slL_members slL_fair sllaw : Array (Option Value)} {ocFair___init__ kVFair___init__ dcFair___init__ pmFair___init__ cdFair___init__ ctFair___init__ ocFair_tally kVFair_tally dcFair_tally pmFair_tally cdFair_tally ctFair_tally ocFair_is_ahead kVFair_is_ahead dcFair_is_ahead pmFair_is_ahead cdFair_is_ahead ctFair_is_ahead ocFair_choose kVFair_choose dcFair_choose pmFair_choose cdFair_choose ctFair_choose ocFair_plan kVFair_plan dcFair_plan pmFair_plan cdFair_plan ctFair_plan ocL_mixed kVL_mixed dcL_mixed pmL_mixed cdL_mixed ctL_mixed ocL_tape kVL_tape dcL_tape pmL_tape cdL_tape ctL_tape ocL_draw kVL_draw dcL_draw pmL_draw cdL_draw ctL_draw ocL_pick kVL_pick dcL_pick pmL_pick cdL_pick ctL_pick ocL_same kVL_same dcL_same pmL_same cdL_same ctL_same ocL_choose kVL_choose dcL_choose pmL_choose cdL_choose ctL_choose ocL_members kVL_members dcL_members pmL_members cdL_members ctL_members ocL_fair kVL_fair dcL_fair pmL_fair cdL_fair ctL_fair oclaw kVlaw dclaw pmlaw cdlaw ctlaw : Value}
    (aCFair : PySem.W.nsIn K mainGlobals "Fair" = some (some (.ref CFair))) (pgFair : PySem.W.plainGet K CFair Str.empty = true) (hdFair : PySem.W.hasDictIn K CFair = true) (poFair : PySem.W.plainOver K CFair = true) (saFair : PySem.W.findIn K (.ref CFair) "__setattr__" = some (some (.builtin "object.__setattr__"))) (mkFair : PySem.W.makesIn K CFair = true) (kcFair : PySem.W.keepIn K (.ref CFair) = true)
    (nFair_weights : PySem.W.findIn K (.ref CFair) "weights" = some none)
    (nFair_chosen : PySem.W.findIn K (.ref CFair) "chosen" = some none)
    (aFair___init__ : PySem.W.findIn K (.ref CFair) "__init__" = some (some (.ref fFair___init__))) (iFair___init__ : PySem.W.isFn K (.ref fFair___init__) = true) (lFair___init__ : K.lookup fFair___init__ = some ⟨ocFair___init__, odFair___init__, .func (PySem.W.fnOf "__init__" "Fair.__init__" (defArgs s_Fair___init__) (defBody s_Fair___init__) (defScope s_Fair___init__) .none kVFair___init__ dcFair___init__ pmFair___init__ anFair___init__ cdFair___init__ ctFair___init__), slFair___init__⟩) (cFair___init__ : PySem.W.codeIn K cdFair___init__ "Fair.__init__" = true) (kFair___init__ : PySem.W.keepIn K (.ref fFair___init__) = true)
    (aFair_tally : PySem.W.findIn K (.ref CFair) "tally" = some (some (.ref PFair_tally))) (iFair_tally : PySem.W.specialIn K (.ref PFair_tally) "__get__" = some (some (.builtin "property.__get__"))) (tFair_tally : PySem.W.takesIn K (.ref PFair_tally) = some true) (rFair_tally : ∃ rest, PySem.W.recIn K PFair_tally "property" = some (.ref fFair_tally :: rest)) (lFair_tally : K.lookup fFair_tally = some ⟨ocFair_tally, odFair_tally, .func (PySem.W.fnOf "tally" "Fair.tally" (defArgs s_Fair_tally) (defBody s_Fair_tally) (defScope s_Fair_tally) .none kVFair_tally dcFair_tally pmFair_tally anFair_tally cdFair_tally ctFair_tally), slFair_tally⟩) (cFair_tally : PySem.W.codeIn K cdFair_tally "Fair.tally" = true) (kFair_tally : PySem.W.keepIn K (.ref fFair_tally) = true)
    (aFair_is_ahead : PySem.W.findIn K (.ref CFair) "is_ahead" = some (some (.ref fFair_is_ahead))) (iFair_is_ahead : PySem.W.isFn K (.ref fFair_is_ahead) = true) (lFair_is_ahead : K.lookup fFair_is_ahead = some ⟨ocFair_is_ahead, odFair_is_ahead, .func (PySem.W.fnOf "is_ahead" "Fair.is_ahead" (defArgs s_Fair_is_ahead) (defBody s_Fair_is_ahead) (defScope s_Fair_is_ahead) .none kVFair_is_ahead dcFair_is_ahead pmFair_is_ahead anFair_is_ahead cdFair_is_ahead ctFair_is_ahead), slFair_is_ahead⟩) (cFair_is_ahead : PySem.W.codeIn K cdFair_is_ahead "Fair.is_ahead" = true) (kFair_is_ahead : PySem.W.keepIn K (.ref fFair_is_ahead) = true)
    (aFair_choose : PySem.W.findIn K (.ref CFair) "choose" = some (some (.ref fFair_choose))) (iFair_choose : PySem.W.isFn K (.ref fFair_choose) = true) (lFair_choose : K.lookup fFair_choose = some ⟨ocFair_choose, odFair_choose, .func (PySem.W.fnOf "choose" "Fair.choose" (defArgs s_Fair_choose) (defBody s_Fair_choose) (defScope s_Fair_choose) .none kVFair_choose dcFair_choose pmFair_choose anFair_choose cdFair_choose ctFair_choose), slFair_choose⟩) (cFair_choose : PySem.W.codeIn K cdFair_choose "Fair.choose" = true) (kFair_choose : PySem.W.keepIn K (.ref fFair_choose) = true)
    (aFair_plan : PySem.W.findIn K (.ref CFair) "plan" = some (some (.ref fFair_plan))) (iFair_plan : PySem.W.isFn K (.ref fFair_plan) = true) (lFair_plan : K.lookup fFair_plan = some ⟨ocFair_plan, odFair_plan, .func (PySem.W.fnOf "plan" "Fair.plan" (defArgs s_Fair_plan) (defBody s_Fair_plan) (defScope s_Fair_plan) .none kVFair_plan dcFair_plan pmFair_plan anFair_plan cdFair_plan ctFair_plan), slFair_plan⟩) (cFair_plan : PySem.W.codeIn K cdFair_plan "Fair.plan" = true) (kFair_plan : PySem.W.keepIn K (.ref fFair_plan) = true)
    (aL_mixed : PySem.W.nsIn K mainGlobals "_law_mixed" = some (some (.ref fL_mixed))) (lL_mixed : K.lookup fL_mixed = some ⟨ocL_mixed, odL_mixed, .func (PySem.W.fnOf "_law_mixed" "_law_mixed" (defArgs s_L_mixed) (defBody s_L_mixed) (defScope s_L_mixed) .none kVL_mixed dcL_mixed pmL_mixed anL_mixed cdL_mixed ctL_mixed), slL_mixed⟩) (cL_mixed : PySem.W.codeIn K cdL_mixed "_law_mixed" = true) (kL_mixed : PySem.W.keepIn K (.ref fL_mixed) = true)
    (aL_tape : PySem.W.nsIn K mainGlobals "_law_tape" = some (some (.ref fL_tape))) (lL_tape : K.lookup fL_tape = some ⟨ocL_tape, odL_tape, .func (PySem.W.fnOf "_law_tape" "_law_tape" (defArgs s_L_tape) (defBody s_L_tape) (defScope s_L_tape) .none kVL_tape dcL_tape pmL_tape anL_tape cdL_tape ctL_tape), slL_tape⟩) (cL_tape : PySem.W.codeIn K cdL_tape "_law_tape" = true) (kL_tape : PySem.W.keepIn K (.ref fL_tape) = true)
    (aL_draw : PySem.W.nsIn K mainGlobals "_law_draw" = some (some (.ref fL_draw))) (lL_draw : K.lookup fL_draw = some ⟨ocL_draw, odL_draw, .func (PySem.W.fnOf "_law_draw" "_law_draw" (defArgs s_L_draw) (defBody s_L_draw) (defScope s_L_draw) .none kVL_draw dcL_draw pmL_draw anL_draw cdL_draw ctL_draw), slL_draw⟩) (cL_draw : PySem.W.codeIn K cdL_draw "_law_draw" = true) (kL_draw : PySem.W.keepIn K (.ref fL_draw) = true)
    (aL_pick : PySem.W.nsIn K mainGlobals "_law_pick" = some (some (.ref fL_pick))) (lL_pick : K.lookup fL_pick = some ⟨ocL_pick, odL_pick, .func (PySem.W.fnOf "_law_pick" "_law_pick" (defArgs s_L_pick) (defBody s_L_pick) (defScope s_L_pick) .none kVL_pick dcL_pick pmL_pick anL_pick cdL_pick ctL_pick), slL_pick⟩) (cL_pick : PySem.W.codeIn K cdL_pick "_law_pick" = true) (kL_pick : PySem.W.keepIn K (.ref fL_pick) = true)
    (aL_same : PySem.W.nsIn K mainGlobals "_law_same" = some (some (.ref fL_same))) (lL_same : K.lookup fL_same = some ⟨ocL_same, odL_same, .func (PySem.W.fnOf "_law_same" "_law_same" (defArgs s_L_same) (defBody s_L_same) (defScope s_L_same) .none kVL_same dcL_same pmL_same anL_same cdL_same ctL_same), slL_same⟩) (cL_same : PySem.W.codeIn K cdL_same "_law_same" = true) (kL_same : PySem.W.keepIn K (.ref fL_same) = true)
    (aL_choose : PySem.W.nsIn K mainGlobals "_law_choose" = some (some (.ref fL_choose))) (lL_choose : K.lookup fL_choose = some ⟨ocL_choose, odL_choose, .func (PySem.W.fnOf "_law_choose" "_law_choose" (defArgs s_L_choose) (defBody s_L_choose) (defScope s_L_choose) .none kVL_choose dcL_choose pmL_choose anL_choose cdL_choose ctL_choose), slL_choose⟩) (cL_choose : PySem.W.codeIn K cdL_choose "_law_choose" = true) (kL_choose : PySem.W.keepIn K (.ref fL_choose) = true)
    (aL_members : PySem.W.nsIn K mainGlobals "_law_members" = some (some (.ref fL_members))) (lL_members : K.lookup fL_members = some ⟨ocL_members, odL_members, .func (PySem.W.fnOf "_law_members" "_law_members" (defArgs s_L_members) (defBody s_L_members) (defScope s_L_members) .none kVL_members dcL_members pmL_members anL_members cdL_members ctL_members), slL_members⟩) (cL_members : PySem.W.codeIn K cdL_members "_law_members" = true) (kL_members : PySem.W.keepIn K (.ref fL_members) = true)
    (aL_fair : PySem.W.nsIn K mainGlobals "_law_fair" = some (some (.ref fL_fair))) (lL_fair : K.lookup fL_fair = some ⟨ocL_fair, odL_fair, .func (PySem.W.fnOf "_law_fair" "_law_fair" (defArgs s_L_fair) (defBody s_L_fair) (defScope s_L_fair) .none kVL_fair dcL_fair pmL_fair anL_fair cdL_fair ctL_fair), slL_fair⟩) (cL_fair : PySem.W.codeIn K cdL_fair "_law_fair" = true) (kL_fair : PySem.W.keepIn K (.ref fL_fair) = true)
    (alaw : PySem.W.nsIn K mainGlobals "law" = some (some (.ref flaw))) (llaw : K.lookup flaw = some ⟨oclaw, odlaw, .func (PySem.W.fnOf "law" "law" (defArgs s_law) (defBody s_law) (defScope s_law) .none kVlaw dclaw pmlaw anlaw cdlaw ctlaw), sllaw⟩) (claw : PySem.W.codeIn K cdlaw "law" = true) (klaw : PySem.W.keepIn K (.ref flaw) = true)
    (zbool : PySem.W.nsIn K mainGlobals "bool" = some none)
    (zint : PySem.W.nsIn K mainGlobals "int" = some none)
    (zisinstance : PySem.W.nsIn K mainGlobals "isinstance" = some none)
    (zlen : PySem.W.nsIn K mainGlobals "len" = some none)
    (zlist : PySem.W.nsIn K mainGlobals "list" = some none)
    (zmin : PySem.W.nsIn K mainGlobals "min" = some none)
    (zrange : PySem.W.nsIn K mainGlobals "range" = some none)
    (zstr : PySem.W.nsIn K mainGlobals "str" = some none)
    (ztuple : PySem.W.nsIn K mainGlobals "tuple" = some none)
    : ∃ fd : FuncData, (∀ (s : Shared) (v : Value), BindsTo s fd ⟨[v], []⟩ [("_law_script", v)]) ∧ ∀ base : Heap, K.In base → base.Ns mainGlobals mg → FnOk l.prog w K mg base CX0 4 fa fd ["_law_script"] (sp_law K) := by
  have e := hfa.symm.trans (PySem.W.mg_of X G alaw)
  cases e
  have FFair___init__ := fun_mk (st := s_Fair___init__) lFair___init__ cFair___init__ kFair___init__
  have bFair___init__ := FFair___init__.binds (ps := ["self", "weights"]) fun _ _ _ _ _ _ us hl => match us, hl with | [_, _], _ => rfl
  have FFair_tally := fun_mk (st := s_Fair_tally) lFair_tally cFair_tally kFair_tally
  have bFair_tally := FFair_tally.binds (ps := ["self"]) fun _ _ _ _ _ _ us hl => match us, hl with | [_], _ => rfl
  have FFair_is_ahead := fun_mk (st := s_Fair_is_ahead) lFair_is_ahead cFair_is_ahead kFair_is_ahead
  have bFair_is_ahead := FFair_is_ahead.binds (ps := ["self", "one", "two"]) fun _ _ _ _ _ _ us hl => match us, hl with | [_, _, _], _ => rfl
  have FFair_choose := fun_mk (st := s_Fair_choose) lFair_choose cFair_choose kFair_choose
  have bFair_choose := FFair_choose.binds (ps := ["self", "members"]) fun _ _ _ _ _ _ us hl => match us, hl with | [_, _], _ => rfl
  have FFair_plan := fun_mk (st := s_Fair_plan) lFair_plan cFair_plan kFair_plan
  have bFair_plan := FFair_plan.binds (ps := ["self", "members", "budget"]) fun _ _ _ _ _ _ us hl => match us, hl with | [_, _, _], _ => rfl
  have FL_mixed := fun_mk (st := s_L_mixed) lL_mixed cL_mixed kL_mixed
  have bL_mixed := FL_mixed.binds (ps := ["_law_number", "_law_turn"]) fun _ _ _ _ _ _ us hl => match us, hl with | [_, _], _ => rfl
  have FL_tape := fun_mk (st := s_L_tape) lL_tape cL_tape kL_tape
  have bL_tape := FL_tape.binds (ps := ["_law_script"]) fun _ _ _ _ _ _ us hl => match us, hl with | [_], _ => rfl
  have FL_draw := fun_mk (st := s_L_draw) lL_draw cL_draw kL_draw
  have bL_draw := FL_draw.binds (ps := ["_law_tape_here", "_law_many"]) fun _ _ _ _ _ _ us hl => match us, hl with | [_, _], _ => rfl
  have FL_pick := fun_mk (st := s_L_pick) lL_pick cL_pick kL_pick
  have bL_pick := FL_pick.binds (ps := ["_law_tape_here", "_law_row"]) fun _ _ _ _ _ _ us hl => match us, hl with | [_, _], _ => rfl
  have FL_same := fun_mk (st := s_L_same) lL_same cL_same kL_same
  have bL_same := FL_same.binds (ps := ["_law_actual", "_law_due"]) fun _ _ _ _ _ _ us hl => match us, hl with | [_, _], _ => rfl
  have FL_choose := fun_mk (st := s_L_choose) lL_choose cL_choose kL_choose
  have bL_choose := FL_choose.binds (ps := ["_law_world", "_law_members_here"]) fun _ _ _ _ _ _ us hl => match us, hl with | [_, _], _ => rfl
  have FL_members := fun_mk (st := s_L_members) lL_members cL_members kL_members
  have bL_members := FL_members.binds (ps := ["_law_tape_here", "_law_many"]) fun _ _ _ _ _ _ us hl => match us, hl with | [_, _], _ => rfl
  have FL_fair := fun_mk (st := s_L_fair) lL_fair cL_fair kL_fair
  have bL_fair := FL_fair.binds (ps := ["_law_world"]) fun _ _ _ _ _ _ us hl => match us, hl with | [_], _ => rfl
  have Flaw := fun_mk (st := s_law) llaw claw klaw
  have blaw := Flaw.binds (ps := ["_law_script"]) fun _ _ _ _ _ _ us hl => match us, hl with | [_], _ => rfl
  let T : Txt K mg := { c_Fair := _, C_Fair := ⟨pgFair, hdFair, poFair, saFair⟩, gc_Fair := PySem.W.mg_of X G aCFair, n_Fair_weights := nFair_weights, n_Fair_chosen := nFair_chosen, a_Fair___init__ := _, d_Fair___init__ := _, F_Fair___init__ := FFair___init__, b_Fair___init__ := bFair___init__, M_Fair := ⟨mkFair, aFair___init__, iFair___init__, kcFair⟩, a_Fair_tally := _, d_Fair_tally := _, F_Fair_tally := FFair_tally, b_Fair_tally := bFair_tally, p_Fair_tally := _, P_Fair_tally := ⟨aFair_tally, iFair_tally, tFair_tally, rFair_tally⟩, a_Fair_is_ahead := _, d_Fair_is_ahead := _, F_Fair_is_ahead := FFair_is_ahead, b_Fair_is_ahead := bFair_is_ahead, m_Fair_is_ahead := ⟨aFair_is_ahead, iFair_is_ahead, kFair_is_ahead⟩, a_Fair_choose := _, d_Fair_choose := _, F_Fair_choose := FFair_choose, b_Fair_choose := bFair_choose, m_Fair_choose := ⟨aFair_choose, iFair_choose, kFair_choose⟩, a_Fair_plan := _, d_Fair_plan := _, F_Fair_plan := FFair_plan, b_Fair_plan := bFair_plan, m_Fair_plan := ⟨aFair_plan, iFair_plan, kFair_plan⟩, a_L_mixed := _, d_L_mixed := _, F_L_mixed := FL_mixed, b_L_mixed := bL_mixed, g_L_mixed := PySem.W.mg_of X G aL_mixed, a_L_tape := _, d_L_tape := _, F_L_tape := FL_tape, b_L_tape := bL_tape, g_L_tape := PySem.W.mg_of X G aL_tape, a_L_draw := _, d_L_draw := _, F_L_draw := FL_draw, b_L_draw := bL_draw, g_L_draw := PySem.W.mg_of X G aL_draw, a_L_pick := _, d_L_pick := _, F_L_pick := FL_pick, b_L_pick := bL_pick, g_L_pick := PySem.W.mg_of X G aL_pick, a_L_same := _, d_L_same := _, F_L_same := FL_same, b_L_same := bL_same, g_L_same := PySem.W.mg_of X G aL_same, a_L_choose := _, d_L_choose := _, F_L_choose := FL_choose, b_L_choose := bL_choose, g_L_choose := PySem.W.mg_of X G aL_choose, a_L_members := _, d_L_members := _, F_L_members := FL_members, b_L_members := bL_members, g_L_members := PySem.W.mg_of X G aL_members, a_L_fair := _, d_L_fair := _, F_L_fair := FL_fair, b_L_fair := bL_fair, g_L_fair := PySem.W.mg_of X G aL_fair, a_law := _, d_law := _, F_law := Flaw, b_law := blaw, g_law := PySem.W.mg_of X G alaw, z_bool := PySem.W.mg_none_of X G zbool, z_int := PySem.W.mg_none_of X G zint, z_isinstance := PySem.W.mg_none_of X G zisinstance, z_len := PySem.W.mg_none_of X G zlen, z_list := PySem.W.mg_none_of X G zlist, z_min := PySem.W.mg_none_of X G zmin, z_range := PySem.W.mg_none_of X G zrange, z_str := PySem.W.mg_none_of X G zstr, z_tuple := PySem.W.mg_none_of X G ztuple }
  exact ⟨_, fun s v => .of_eq rfl, fun base _ _ => ok_law (P := l.prog) (w := w) (base := base) T⟩
theorem walk {l : PySem.W.OpenLaw} {q : Program} {loose : List Str} {XP : (Str → Option Value) → Heap → Prop} {YP : World → Heap → Prop} {d : DefRec} {K : Params → PySem.W.Frag} (hn : l.most = some 63) (hdf : d.params.defaults = [])
    (hY : ∀ (w : World) (h : Heap), YP w h → (K w.params).In h)
    (F : ∀ (w : World) (mg : Str → Option Value) (fa : Addr) (h : Heap), (K w.params).In h → h.Ns mainGlobals mg → mg d.name = some (.ref fa) →
      ∃ fd : FuncData, (∀ (s : Shared) (u : Value), BindsTo s fd ⟨[u], []⟩ [("_law_script", u)]) ∧ ∀ base : Heap, (K w.params).In base → base.Ns mainGlobals mg → FnOk l.prog w (K w.params) mg base CX0 4 fa fd ["_law_script"] (sp_law (K w.params))) :
    PySem.W.WalkO q loose XP YP l.row.toRowW d [] (fun f vs => PySem.call f vs) :=
  L2.walk_of (n := 63) (k := 4) (x := "_law_script") (CX := fun _ => CX0) (sp := fun w => sp_law (K w.params)) hn (by decide) hdf ⟨rfl, by decide, by decide⟩ hY F (fun _ _ a ns hl _ hS => ⟨a, ns, rfl, hS, hl, fun _ => rfl⟩) fun _ _ _ _ _ z => z
end My

open PySem PySem.W PyProof.Rows
set_option maxRecDepth 100000 in
set_option maxHeartbeats 0 in
theorem PySem.Challenge.cw_servedalone_k56_fair_choices_holds : PySem.Challenge.rw_servedalone_k56_fair_choices.Holds := by
  w_on; o_law; k_head; (case hw => w_witness2)
  k_fill
  refine My.walk (l := PySem.Challenge.rw_servedalone_k56_fair_choices) rfl rfl (fun w h Y => PySem.W.kIn_of Y) ?F
  case F =>
    intro w mg fa h KX G hmg
    refine' My.all_mk KX G hmg ?aCFair ?pgFair ?hdFair ?poFair ?saFair ?mkFair ?kcFair ?nFair_weights ?nFair_chosen ?aFair___init__ ?iFair___init__ ?lFair___init__ ?cFair___init__ ?kFair___init__ ?aFair_tally ?iFair_tally ?tFair_tally ?rFair_tally ?lFair_tally ?cFair_tally ?kFair_tally ?aFair_is_ahead ?iFair_is_ahead ?lFair_is_ahead ?cFair_is_ahead ?kFair_is_ahead ?aFair_choose ?iFair_choose ?lFair_choose ?cFair_choose ?kFair_choose ?aFair_plan ?iFair_plan ?lFair_plan ?cFair_plan ?kFair_plan ?aL_mixed ?lL_mixed ?cL_mixed ?kL_mixed ?aL_tape ?lL_tape ?cL_tape ?kL_tape ?aL_draw ?lL_draw ?cL_draw ?kL_draw ?aL_pick ?lL_pick ?cL_pick ?kL_pick ?aL_same ?lL_same ?cL_same ?kL_same ?aL_choose ?lL_choose ?cL_choose ?kL_choose ?aL_members ?lL_members ?cL_members ?kL_members ?aL_fair ?lL_fair ?cL_fair ?kL_fair ?alaw ?llaw ?claw ?klaw ?zbool ?zint ?zisinstance ?zlen ?zlist ?zmin ?zrange ?zstr ?ztuple
    (case aCFair => k_is)
    (case pgFair => k_is)
    (case hdFair => k_is)
    (case poFair => k_is)
    (case saFair => k_is)
    (case mkFair => k_is)
    (case kcFair => k_is)
    (case nFair_weights => k_is)
    (case nFair_chosen => k_is)
    (case aFair___init__ => k_is)
    (case iFair___init__ => k_is)
    (case lFair___init__ => k_is)
    (case cFair___init__ => k_is)
    (case kFair___init__ => k_is)
    (case aFair_tally => k_is)
    (case iFair_tally => k_is)
    (case tFair_tally => k_is)
    (case rFair_tally => exact ⟨_, by k_is⟩)
    (case lFair_tally => k_is)
    (case cFair_tally => k_is)
    (case kFair_tally => k_is)
    (case aFair_is_ahead => k_is)
    (case iFair_is_ahead => k_is)
    (case lFair_is_ahead => k_is)
    (case cFair_is_ahead => k_is)
    (case kFair_is_ahead => k_is)
    (case aFair_choose => k_is)
    (case iFair_choose => k_is)
    (case lFair_choose => k_is)
    (case cFair_choose => k_is)
    (case kFair_choose => k_is)
    (case aFair_plan => k_is)
    (case iFair_plan => k_is)
    (case lFair_plan => k_is)
    (case cFair_plan => k_is)
    (case kFair_plan => k_is)
    (case aL_mixed => k_is)
    (case lL_mixed => k_is)
    (case cL_mixed => k_is)
    (case kL_mixed => k_is)
    (case aL_tape => k_is)
    (case lL_tape => k_is)
    (case cL_tape => k_is)
    (case kL_tape => k_is)
    (case aL_draw => k_is)
    (case lL_draw => k_is)
    (case cL_draw => k_is)
    (case kL_draw => k_is)
    (case aL_pick => k_is)
    (case lL_pick => k_is)
    (case cL_pick => k_is)
    (case kL_pick => k_is)
    (case aL_same => k_is)
    (case lL_same => k_is)
    (case cL_same => k_is)
    (case kL_same => k_is)
    (case aL_choose => k_is)
    (case lL_choose => k_is)
    (case cL_choose => k_is)
    (case kL_choose => k_is)
    (case aL_members => k_is)
    (case lL_members => k_is)
    (case cL_members => k_is)
    (case kL_members => k_is)
    (case aL_fair => k_is)
    (case lL_fair => k_is)
    (case cL_fair => k_is)
    (case kL_fair => k_is)
    (case alaw => k_is)
    (case llaw => k_is)
    (case claw => k_is)
    (case klaw => k_is)
    (case zbool => k_is)
    (case zint => k_is)
    (case zisinstance => k_is)
    (case zlen => k_is)
    (case zlist => k_is)
    (case zmin => k_is)
    (case zrange => k_is)
    (case zstr => k_is)
    (case ztuple => k_is)
#print axioms PySem.Challenge.cw_servedalone_k56_fair_choices_holds
