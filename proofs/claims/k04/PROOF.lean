import PyProof.Rows.All
import Wide.All
import OpenK.AllK
import Wide.FinOn
import HandS.ForMost
import HandS.Walk
import HandS.IsInst
import HandS.Evl
import HandS.Property
import HandS.Conv
import HandS.TupAny
import PyProof.InstNe
import KE.KTupSum
import KE.GoesMore
import KE.GoesEnum
import KE.GoesZip
import PySem.Challenge.RW_servedalone_k04_rules
set_option Elab.async false
set_option linter.all false
set_option maxRecDepth 100000
set_option maxHeartbeats 4000000
namespace L2
open PySem PySem.Spec PyProof.Rows

/-! ### own rules: either of two readings; sums, enumerate and walks of lists or tuples -/
theorem PI.or {X : Cx} {tg iter : Expr} {w1 w2 : TI} (h1 : PI X tg iter w1) (h2 : PI X tg iter w2) : PI X tg iter (fun σ H R => w1 σ H R ∨ w2 σ H R) := by
  refine ⟨fun pins s σ H R I h => ?_⟩
  rcases h with h | h
  · exact h1.run pins s σ H R I h
  · exact h2.run pins s σ H R I h

section
variable {X : Cx}
def rAddG (K : PySem.W.Frag) : R2 := fun x y H Q => (rI0 fun i j => .int (i + j)) x y H Q ∨ rCatT K x y H Q ∨ rCat x y H Q
theorem op_addG : OpR X (binaryOp .Add) (rAddG X.K) := op_add.or (op_catT.or op_cat)
def rEqG (K : PySem.W.Frag) : R2 := fun x y H Q => rEq x y H Q ∨ rEqD K x y H Q
def rNeG (K : PySem.W.Frag) : R2 := fun x y H Q => rNe x y H Q ∨ rNeD K x y H Q
theorem op_eqG (hu : X.A.units + 64 < cLine) : OpR X (compareOp .Eq) (rEqG X.K) := op_eq.or (op_eqD hu)
theorem op_neG (hu : X.A.units + 64 < cLine) : OpR X (compareOp .NotEq) (rNeG X.K) := op_ne.or (op_neD hu)
def rSlG (K : PySem.W.Frag) : V → Option Int → Option Int → Hp → VK → Prop := fun x lo hi H Q => rSlL K x lo hi H Q ∨ rSlA K x lo hi H Q
theorem sl_seqG : SlR X (rSlG X.K) := sl_list.or sl_tupA
def rSumS (K : PySem.W.Frag) : List V → Hp → VK → Prop := fun vs H Q => ∃ (a : Addr) (ns : List Int), vs = [V.ref a] ∧ (SqL K H a (ns.map V.int) ∨ SqT K H a (ns.map V.int)) ∧ Q (.int ns.sum) H
theorem cr_sumS (hc : X.calm = true) : CallR X (.builtin "sum") (rSumS X.K) := by
  intro pins s σ H vs us Q I r h
  obtain ⟨a, ns, rfl, hs, q⟩ := h
  rw [Vals.ref1 r]
  rcases hs with hs | hs
  · obtain ⟨its, rv, hl, _⟩ := I.list hs
    exact sum_raw (I.ok.hd hc) hl.isList rv.ints fun h' tk t' hk => ⟨.int _, H, I.kept hk, ⟨_, rfl⟩, q⟩
  · obtain ⟨its, rv, ht, _⟩ := I.tuple hs
    have hi := rv.ints
    obtain ⟨xs, e⟩ := hi.allInts.items
    have hn : numsOf (intItems xs).toList = ns := by rw [← e]; exact hi.numsOf
    rw [nums_intItems] at hn
    have ht' : s.heap.IsTuple a its.toArray := ht
    rw [e] at ht'
    refine PySem.W.ktm_sumG (I.ok.hd hc) ht' fun h' tk t' hk => ⟨.int ns.sum, H, I.kept hk, ⟨t', ?_⟩, q⟩
    rw [preSum_eq, List.take_of_length_le (by simp), hn]

end

/-! ### enumerate(tuple) -/
def IteT (K : PySem.W.Frag) (a : Addr) : It :=
  ⟨fun i H => ∃ (xs : List V) (x : V), SqT K H a xs ∧ xs[i]? = some x, fun i H v H' => ∃ T x, v = .ref T ∧ H T = none ∧ H' = upd H T (.tup [.int (i : Nat), x]) ∧ ∀ xs, SqT K H a xs → xs[i]? = some x, fun i H => ∃ xs : List V, SqT K H a xs ∧ xs.length ≤ i⟩
theorem tup_ne_iter {h : Heap} {a it : Addr} {items : Array Value} {i : Nat} (p : IsTup h a items) (q : h.IsTupleIter it a i) : a ≠ it := by
  obtain ⟨o, ho, hc, _⟩ := p
  obtain ⟨o', ho', hc', _⟩ := q
  intro e
  subst e
  rw [ho] at ho'
  cases ho'
  rw [hc] at hc'
  exact absurd hc' (by decide)
theorem meets_enumerate_newT (l : Addr) (items : Array Value) :
    Meets (Builtin.«enumerate.__new__» ⟨[.type "enumerate", .ref l], []⟩) (fun _ R s => s.heap.IsTuple l items ∧
      R (.ok (.ret (.ref (s.heap.push { cls := .type "tuple_iterator", data := .fields #[.ref l, .int 0 0] }).objs.size)))
        { s with heap := (s.heap.push { cls := .type "tuple_iterator", data := .fields #[.ref l, .int 0 0] }).push { cls := .type "enumerate", data := .fields #[.none, .bool false, .ref s.heap.objs.size, rawInt 0, .none, .none] } }) :=
  .of_wp fun prog w A R s h => by
    obtain ⟨hp, g, d, tk, os⟩ := s; obtain ⟨h1, h⟩ := h
    have hsub := sub_enumerate
    have q1 : ∀ {A' : Around} {E : Value → Shared → Prop} {Q : Value → Shared → Prop}, Q (.ref hp.objs.size) ⟨hp.push { cls := .type "tuple_iterator", data := .fields #[.ref l, .int 0 0] }, g, d, tk, os⟩ → wpAny (model prog w) A' (pyIter (.ref l)) Q E ⟨hp, g, d, tk, os⟩ :=
      fun q => wpAny_pyIter_tuple (s := ⟨hp, g, d, tk, os⟩) h1 q
    wp_walk using q1
    refine wpAny_stack_any fun st => wpAny_pure ?_
    split
    · rename_i c _ _ _ _ _
      cases (c == Value.type "enumerate")
      · wp_walk using q1
        exact ⟨_, rfl, h⟩
      · wp_walk using q1
        exact ⟨_, rfl, h⟩
    · wp_walk using q1
      exact ⟨_, rfl, h⟩
theorem call_enumerate_tup {prog : Program} {w : World} {A : Around} {E : Value → Shared → Prop} {s : Shared} {l : Addr} {items : Array Value} {Q : Value → Shared → Prop} (hL : s.heap.IsTuple l items)
    (h : ∀ h', IsEnum h' (s.heap.objs.size + 1) s.heap.objs.size 0 .none → h'.IsTupleIter s.heap.objs.size l 0 → h'.objs.size = s.heap.objs.size + 2 →
      (∀ b o, s.heap.get? b = some o → h'.get? b = some o) → Q (.ref (s.heap.objs.size + 1)) { s with heap := h' }) :
    wpAny (model prog w) A (call (.type "enumerate") [.ref l]) Q E s := by
  refine callType_new F.called_enumerate (by decide) (F.typeCall_enumerate_1 _) (F.newCall_enumerate_1 _) (fun obj => F.args_object_init_2 obj _) F.entry_enumerate_new
    (meets_enumerate_newT l items) ⟨hL, ?_⟩
  have hz : (s.heap.push { cls := .type "tuple_iterator", data := .fields #[.ref l, .int 0 0] }).objs.size = s.heap.objs.size + 1 := Heap.size_push ..
  show _ ∧ _
  rw [hz]
  have he : IsEnum ((s.heap.push { cls := .type "tuple_iterator", data := .fields #[.ref l, .int 0 0] }).push
      { cls := .type "enumerate", data := .fields #[.none, .bool false, .ref s.heap.objs.size, rawInt 0, .none, .none] }) (s.heap.objs.size + 1) s.heap.objs.size 0 .none := by
    have := Heap.get?_push_size (s.heap.push { cls := .type "tuple_iterator", data := .fields #[.ref l, .int 0 0] })
      (o := { cls := .type "enumerate", data := .fields #[.none, .bool false, .ref s.heap.objs.size, rawInt 0, .none, .none] }) rfl
    rw [hz] at this; exact this
  refine ⟨⟨_, he, rfl⟩, h _ he ⟨_, Heap.get?_push_of_some _ (Heap.get?_push_size _ rfl), rfl, rfl⟩ (by rw [Heap.size_push, hz]) fun b o x => Heap.get?_push_of_some _ (Heap.get?_push_of_some _ x)⟩
theorem turn_enumT {P : Program} {w : World} {K : PySem.W.Frag} {elts : List Expr} {kk : Nat} {tpos : Pos} (a e it : Addr) :
    Turn P w K (.Tuple elts kk tpos) (IteT K a) [e, it] e (fun i h => (∃ old, IsEnum h e it ((i : Nat) : Int) old) ∧ h.IsTupleIter it a i ∧ e ≠ it) where
  mem := by simp
  obj := fun i h st b hb => by
    obtain ⟨⟨old, he⟩, ⟨o, ho, hc, hd⟩, _⟩ := st
    have e' : b = e ∨ b = it := by simpa using hb
    rcases e' with z | z
    · rw [z]; exact ⟨_, he, fun v q => nomatch q⟩
    · rw [z]; exact ⟨o, ho, fun v q => by rw [hd] at q; cases q⟩
  keep := fun i h h' st k => let ⟨⟨old, he⟩, hi, hne⟩ := st; ⟨⟨old, k e (by simp) _ he⟩, hi.at fun o q => k it (by simp) o q, hne⟩
  item := by
    intro X hP hw hK hc i pins s σ H E I hf st hg
    subst hP hw hK
    obtain ⟨⟨old, he⟩, hit, hne⟩ := st
    obtain ⟨xs, x, hq, hx⟩ := hg
    obtain ⟨its, rv, p, hz⟩ := I.tuple hq
    obtain ⟨u, hu, ru⟩ := rv.get hx
    have hai : a ≠ it := tup_ne_iter p hit
    have hel : e < s.heap.objs.size := Heap.lt_size he
    have hil : it < s.heap.objs.size := by obtain ⟨_, q, _⟩ := hit; exact Heap.lt_size q
    have hal : a < s.heap.objs.size := by obtain ⟨_, q, _⟩ := p; exact Heap.lt_size q
    have hae : e ≠ a := by
      obtain ⟨o, ho, hcl, _⟩ := id p
      intro z
      rw [← z, he] at ho
      cases ho
      have hcl' : (Value.type "enumerate") = Value.type "tuple" := hcl
      exact absurd hcl' (by decide)
    have hlt : i < its.toArray.size := by
      have h1 := (List.getElem?_eq_some_iff.mp hu).1
      simpa using h1
    refine wpAny_pyNext_enum_itemD (Draws.tuple (prog := X.prog) (w := X.w) (A := X.A.in1) (show X.A.in1.handled = none from I.ok.hd hc) it a hai its.toArray) he ⟨hit, p⟩ hlt hne (by simp [hne, hae]) fun y h' tk hP ho st' hT hsz hk => ?_
    have ey : y = u := by
      have h1 : its.toArray[i]? = some y := hP
      have h2 : its.toArray[i]? = some u := by simpa using hu
      rw [h1] at h2
      exact Option.some.inj h2
    subst ey
    refine ⟨_, rfl, wpAny_letOwnedTupleGo_enum (s := { s with heap := h', toks := tk + 1 }) ho fun h'' he' sb => ?_⟩
    have hT2 : h''.get? s.heap.objs.size = some { cls := .type "tuple", data := .seq #[.int i tk, y] } := (sb.2 _ (Nat.ne_of_gt hel)).trans hT
    have new : ObjOk X.prog X.w (upd H s.heap.objs.size (.tup [.int (i : Nat), x])) h'' s.heap.objs.size (.tup [.int (i : Nat), x]) :=
      ⟨by show 2 ≤ sizeLine; decide, [.int i tk, y], .cons ⟨_, rfl⟩ (.cons ru .nil), ⟨_, hT2, rfl, _, rfl⟩⟩
    have I1 : Inv X pins σ (upd H s.heap.objs.size (.tup [.int (i : Nat), x])) { s with heap := h'', toks := tk + 1 } :=
      I.turnedNew (t' := tk + 1) (ch := [e, it]) (fun b ob hb q => (sb.2 b (fun z => hb (by simp [z]))).trans (hk b ob (fun z => hb (by simp [z])) (fun z => hb (by simp [z])) q)) hf (Nat.le_refl _) new
    refine ⟨.ref s.heap.objs.size, _, I1, rfl, ⟨_, x, rfl, I.hok.fresh (Nat.le_refl _), rfl, fun ys hy => by rw [I.tuple_inj hy hq]; exact hx⟩, ⟨⟨y, ?_⟩, st'.1.at fun o q => (sb.2 it (Ne.symm hne)).trans q, hne⟩, fun b hb => ?_⟩
    · have e1 : ((i + 1 : Nat) : Int) = (i : Int) + 1 := by omega
      rw [e1]; exact he'
    · have hb' : b < s.heap.objs.size := by
        have e' : b = e ∨ b = it := by simpa using hb
        rcases e' with z | z
        · rw [z]; exact hel
        · rw [z]; exact hil
      rw [upd_ne (Nat.ne_of_lt hb')]
      exact (hf b hb).1
  done := by
    intro X hP hw hK hc i pins s σ H E I hf st hg
    subst hP hw hK
    obtain ⟨⟨old, he⟩, hit, hne⟩ := st
    obtain ⟨xs, hq, hx⟩ := hg
    obtain ⟨its, rv, p, hz⟩ := I.tuple hq
    have hai : a ≠ it := tup_ne_iter p hit
    obtain ⟨f0, f1, f2, f3, f4, f5⟩ := hf it (by simp)
    have hl := rv.length
    unfold pyNext
    have hT : s.TypeIs (.ref e) "enumerate" := ⟨_, he, rfl⟩
    refine wpAny_bind (wpAny_attempt (wpAny_callSpecial?_slot (name := Str.ofString "__next__") hT F.slot_enumerate_next
      (wpAny_call_entry F.slot_enumerate_next hT F.entry_enumerate_next ?_ (F.args_enumerate_next_1 _))))
    show wpAny _ _ (field (.ref e) 2 >>= _) _ _ _
    refine wpAny_bind (wpAny_field he rfl (x := .ref it) rfl ?_)
    refine wpAny_bind (wpAny_nextOf_tuple_end (show X.A.in1.handled = none from I.ok.hd hc) hit p (by simp; omega) fun h' x he' hx' => ?_)
    obtain ⟨o, ho, hcx⟩ := hx'
    refine wpAny_bind (wpAny_isInstance (T := "StopIteration") (b := true) ⟨o, ho, hcx⟩ isSubtype_stop ?_)
    exact wpAny_pure ⟨rfl, I.turned (t' := s.toks) (fun b o hb q => he' b o hb q) f0 f1 f3 f4 f5⟩
  self := fun A i s Q E st h => let ⟨⟨_, he⟩, _⟩ := st; wpAny_pyIter_enum he h
def iEnumT (K : PySem.W.Frag) (ta : TA) : TI := fun σ H R => ta σ H fun vs H1 => ∃ a xs, vs = [.ref a] ∧ SqT K H1 a xs ∧ R (IteT K a) H1
theorem pi_enumT {X : Cx} {e : Expr} {ta : TA} {p pos tpos : Pos} {elts : List Expr} {kk : Nat} (hg : Gl X "enumerate") (hm : X.mg "enumerate" = none) (ha : PA X [e] ta) (hs : starEach [e] X.env = [(false, eval e X.env)] := by rfl) :
    PI X (.Tuple elts kk tpos) (.Call (.Name "enumerate" p) [e] [] pos) (iEnumT X.K ta) := by
  refine ⟨fun pins s σ H R I h => ?_⟩
  refine Call_ (ld_blt I hg hm boot_enumerate (PyProof.Rows.callWith_type1 (thn (ha.run pos pins s σ H _ I h) fun us s1 ⟨vs, H1, I1, r1, q1⟩ => ?_) hs rfl))
  obtain ⟨a, xs, ex, hq, q⟩ := q1
  subst ex
  cases r1 with
  | cons r rr =>
    cases rr
    cases r
    obtain ⟨its, rv, p', hz⟩ := I1.tuple hq
    refine call_enumerate_tup p' fun h' he hit hsz hk => wpAny_pyIter_enum he ?_
    have I2 : Inv X pins σ H1 { s1 with heap := h' } := I1.kept (t' := s1.toks) hk
    refine ⟨s1.heap.objs.size + 1, [s1.heap.objs.size + 1, s1.heap.objs.size], _, _, H1, rfl, I2, turn_enumT a (s1.heap.objs.size + 1) s1.heap.objs.size, ⟨⟨.none, he⟩, hit, Nat.succ_ne_self _⟩, fun b hb => ?_, q⟩
    have e' : b = s1.heap.objs.size + 1 ∨ b = s1.heap.objs.size := by simpa using hb
    have hle : s1.heap.objs.size ≤ b := by
      rcases e' with z | z
      · rw [z]; exact Nat.le_add_right _ _
      · rw [z]; exact Nat.le_refl _
    exact I1.fpOk hle (I1.hok.fresh hle)
theorem walk_enumT {K : PySem.W.Frag} {a : Addr} {xs : List V} : Walk (IteT K a) xs.length (fun H => SqT K H a xs) (YPair (fun i => some (.int (i : Nat))) (fun i => xs[i]?)) := by
  refine ⟨fun i _ hi q => ⟨xs, xs[i], q, by simp [hi]⟩, fun _ q => ⟨xs, q, Nat.le_refl _⟩, fun i H v H' _ q y => ?_⟩
  obtain ⟨T, x, h1, h2, h3, h4⟩ := y
  exact ⟨T, .int (i : Nat), x, h1, h2, h3, rfl, h4 xs q⟩
end L2

namespace L2
open PySem PySem.Spec PyProof.Rows

/-! ### names for readings -/
section
variable {X : Cx}
def rInt1 : List V → Hp → VK → Prop := fun xs H Q => (∃ i, xs = [.int i] ∧ Q (.int i) H) ∨ ∃ k, xs = [.bl k] ∧ Q (.int (if k then 1 else 0)) H
theorem cr_int1 : CallR X (.type "int") rInt1 := call_int1
def rAbs : List V → Hp → VK → Prop := fun xs H Q => ∃ i, xs = [.int i] ∧ Q (.int (if i < 0 then -i else i)) H
theorem cr_abs : CallR X (.builtin "abs") rAbs := call_abs
def rMax2 : List V → Hp → VK → Prop := fun xs H Q => ∃ i j, xs = [.int i, .int j] ∧ Q (.int (if j > i then j else i)) H
theorem cr_max2 (hc : X.calm = true) : CallR X (.builtin "max") rMax2 := call_max2 hc
def rMin2 : List V → Hp → VK → Prop := fun xs H Q => ∃ i j, xs = [.int i, .int j] ∧ Q (.int (if j < i then j else i)) H
theorem cr_min2 (hc : X.calm = true) : CallR X (.builtin "min") rMin2 := call_min2 hc
def rLenS (K : PySem.W.Frag) : List V → Hp → VK → Prop := fun xs H Q => ∃ p ys, xs = [.ref p] ∧ (SqL K H p ys ∨ SqT K H p ys) ∧ Q (.int ys.length) H
theorem cr_lenS : CallR X (.builtin "len") (rLenS X.K) := call_len_seq
def rListS (K : PySem.W.Frag) : List V → Hp → VK → Prop := fun xs H Q => ∃ p ys, xs = [.ref p] ∧ (SqL K H p ys ∨ SqT K H p ys) ∧ ∀ l, H l = none → Q (.ref l) (upd H l (.lst ys))
theorem cr_listS : CallR X (.type "list") (rListS X.K) := call_list_of
def rTupS (K : PySem.W.Frag) : List V → Hp → VK → Prop := fun xs H Q => ∃ p ys, xs = [.ref p] ∧ ((SqL K H p ys ∧ ∀ l, H l = none → Q (.ref l) (upd H l (.tup ys))) ∨ (SqT K H p ys ∧ Q (.ref p) H))
theorem cr_tupS : CallR X (.type "tuple") (rTupS X.K) := call_tuple_of
def rIsN : R2 := fun x y H Q => y = .non ∧ Q (.bl (decide (x = .non))) H
def rNotN : R2 := fun x y H Q => y = .non ∧ Q (.bl (!decide (x = .non))) H
theorem op_isNN : OpR X (compareOp .Is) rIsN := op_isN
theorem op_notNN : OpR X (compareOp .IsNot) rNotN := op_notN
def tTru (K : PySem.W.Frag) (ta : TE) : TT := fun σ H Q => ta σ H fun x H' => ∃ k, TruV K x H' k ∧ Q k H'
theorem pt_tru {a : Expr} {ta : TE} (ha : PE X a ta) (he : ∀ whole, isTrue a X.env whole = (do let v ← whole; standAt a.pos; holding [v] (truthy v))) : PT X a (tTru X.K ta) := pt_truth ha he
end

/-! ### the readings, one step each -/
def nth (ns : List Int) (i : Int) : Int := ns.getD i.toNat 0
theorem nth_at {ns : List Int} {i : Int} (h0 : 0 ≤ i) (h1 : i < ns.length) : atI (ns.map V.int) i = some (.int (nth ns i)) := by
  have e : i = ((i.toNat : Nat) : Int) := (Int.toNat_of_nonneg h0).symm
  have h2 : i.toNat < ns.length := by omega
  have g : (ns.map V.int)[i.toNat]? = some (.int (nth ns i)) := by
    rw [List.getElem?_map, List.getElem?_eq_getElem h2]
    unfold nth
    rw [List.getD_eq_getElem?_getD, List.getElem?_eq_getElem h2]
    rfl
  exact at_of e g
theorem nth_nat (ns : List Int) (i : Nat) : nth ns (i : Int) = ns.getD i 0 := rfl
theorem nth_mem {ns : List Int} {i : Int} (h0 : 0 ≤ i) (h1 : i < ns.length) : nth ns i ∈ ns := by
  have h2 : i.toNat < ns.length := by omega
  unfold nth
  rw [List.getD_eq_getElem?_getD, List.getElem?_eq_getElem h2]
  exact List.getElem_mem h2

theorem Same.seqT {K : PySem.W.Frag} {H H' : Hp} {a : Addr} {xs : List V} (e : Same H H') (h : SqT K H a xs) : SqT K H' a xs := by
  rcases h with (h | ⟨o, h⟩) | h
  · exact .inl (.inl (e _ _ h))
  · exact .inl (.inr ⟨o, e _ _ h⟩)
  · exact .inr h
/-- a list (true) or a tuple (false) -/
def Sq (b : Bool) (K : PySem.W.Frag) (H : Hp) (a : Addr) (xs : List V) : Prop := match b with
  | true => SqL K H a xs
  | false => SqT K H a xs
theorem Sq.or {b : Bool} {K : PySem.W.Frag} {H : Hp} {a : Addr} {xs : List V} (h : Sq b K H a xs) : SqL K H a xs ∨ SqT K H a xs := by
  cases b
  · exact .inr h
  · exact .inl h
theorem Sq.lst {K : PySem.W.Frag} {H : Hp} {a : Addr} {xs : List V} (h : H a = some (.lst xs)) : Sq true K H a xs := SqL.of h
theorem Sq.tup {K : PySem.W.Frag} {H : Hp} {a : Addr} {xs : List V} (h : H a = some (.tup xs)) : Sq false K H a xs := SqT.of h
theorem Same.sq {b : Bool} {K : PySem.W.Frag} {H H' : Hp} {a : Addr} {xs : List V} (e : Same H H') (h : Sq b K H a xs) : Sq b K H' a xs := by
  cases b
  · exact e.seqT h
  · exact e.seq h
theorem Same.at {H H' : Hp} {a : Addr} {o : HO} (e : Same H H') (h : H a = some o) : H' a = some o := e a o h
theorem Same.new {H : Hp} {p : Addr} {o : HO} (h : H p = none) : Same H (upd H p o) := fun b x e => by
  rw [upd_ne (ne_of_none e h)]
  exact e
theorem Same.mut {H H' : Hp} {p : Addr} {o : HO} (e : Same H H') (h : H p = none) : Same H (upd H' p o) := fun a u ha => by
  rw [upd_ne (ne_of_none ha h)]
  exact e a u ha

section
variable {K : PySem.W.Frag} {σ σ' : St} {H : Hp} {v x y : V} {ta tb te : TE} {t u : TS} {D : Ends} {c d : TT} {Q : VK} {QB : Bool → Hp → Prop} {QA : List V → Hp → Prop} {r : R2}
theorem go_start (e : σ = σ') (h : t D σ' H) : t D σ H := by rw [e]; exact h
-- values
theorem w_var {i : Nat} (h : σ[i]? = some (some v)) (q : Q v H) : tVar i σ H Q := ⟨v, h, q⟩
theorem w_c (q : Q v H) : tC v σ H Q := q
theorem w_op (q : ta σ H fun x H1 => tb σ H1 fun y H2 => r x y H2 Q) : tOp r ta tb σ H Q := q
theorem w_un {r : V → Hp → VK → Prop} (q : ta σ H fun x H1 => r x H1 Q) : tUn r ta σ H Q := q
theorem w_rU {g : Int → V} {i : Int} (q : Q (g i) H) : rU g (.int i) H Q := ⟨i, rfl, q⟩
theorem w_I0 {g : Int → Int → V} {i j : Int} (q : Q (g i j) H) : rI0 g (.int i) (.int j) H Q := ⟨i, j, rfl, rfl, q⟩
theorem w_I {C : Int → Int → Prop} {g : Int → Int → V} {i j : Int} (hc : C i j) (q : Q (g i j) H) : rI C g (.int i) (.int j) H Q := ⟨i, j, rfl, rfl, hc, q⟩
theorem w_addI {i j : Int} (q : Q (.int (i + j)) H) : rAddG K (.int i) (.int j) H Q := .inl ⟨i, j, rfl, rfl, q⟩
theorem w_eqI {i j : Int} (q : Q (.bl (decide (i = j))) H) : rEqG K (.int i) (.int j) H Q := .inl ⟨rfl, by
  have e : decide (V.int i = V.int j) = decide (i = j) := by
    rw [dec_int]
    by_cases h : i = j
    · subst h; simp
    · rw [decide_eq_false h]; exact beq_eq_false_iff_ne.mpr h
  rw [e]; exact q⟩
theorem w_neI {i j : Int} (q : Q (.bl (!decide (i = j))) H) : rNeG K (.int i) (.int j) H Q := .inl ⟨rfl, by
  have e : decide (V.int i = V.int j) = decide (i = j) := by
    rw [dec_int]
    by_cases h : i = j
    · subst h; simp
    · rw [decide_eq_false h]; exact beq_eq_false_iff_ne.mpr h
  rw [e]; exact q⟩
theorem w_eqS (hs : scal x y = true) (q : Q (.bl (decide (x = y))) H) : rEqG K x y H Q := .inl ⟨hs, q⟩
theorem w_eqD {d e : PyData} (hd : Dp K H x d) (he : Dp K H y e) (sd : SeqAt.shaped d = true) (se : SeqAt.shaped e = true) (q : Q (.bl (PyData.eqv d e)) H) : rEqG K x y H Q := .inr ⟨d, e, hd, he, sd, se, q⟩
theorem w_neD {d e : PyData} (hd : Dp K H x d) (he : Dp K H y e) (sd : SeqAt.shaped d = true) (se : SeqAt.shaped e = true) (q : Q (.bl (!PyData.eqv d e)) H) : rNeG K x y H Q := .inr ⟨d, e, hd, he, sd, se, q⟩
theorem w_isN (q : Q (.bl (decide (x = .non))) H) : rIsN x .non H Q := ⟨rfl, q⟩
theorem w_isNn (q : Q (.bl true) H) : rIsN .non .non H Q := ⟨rfl, q⟩
theorem w_isNi {i : Int} (q : Q (.bl false) H) : rIsN (.int i) .non H Q := ⟨rfl, q⟩
theorem w_isNb {b : Bool} (q : Q (.bl false) H) : rIsN (.bl b) .non H Q := ⟨rfl, q⟩
theorem w_isNs {z : Str} (q : Q (.bl false) H) : rIsN (.str z) .non H Q := ⟨rfl, q⟩
theorem w_isNr {a : Addr} (q : Q (.bl false) H) : rIsN (.ref a) .non H Q := ⟨rfl, q⟩
theorem w_notNn (q : Q (.bl false) H) : rNotN .non .non H Q := ⟨rfl, q⟩
theorem w_notNi {i : Int} (q : Q (.bl true) H) : rNotN (.int i) .non H Q := ⟨rfl, q⟩
theorem w_notNb {b : Bool} (q : Q (.bl true) H) : rNotN (.bl b) .non H Q := ⟨rfl, q⟩
theorem w_notNs {z : Str} (q : Q (.bl true) H) : rNotN (.str z) .non H Q := ⟨rfl, q⟩
theorem w_notNr {a : Addr} (q : Q (.bl true) H) : rNotN (.ref a) .non H Q := ⟨rfl, q⟩
theorem w_notN (q : Q (.bl (!decide (x = .non))) H) : rNotN x .non H Q := ⟨rfl, q⟩
theorem w_cb {r : List V → Hp → VK → Prop} {ta : TA} (q : ta σ H fun vs H1 => r vs H1 Q) : tCB r ta σ H Q := q
theorem w_aNil (q : QA [] H) : tNil σ H QA := q
theorem w_aCons {tr : TA} (q : ta σ H fun x H1 => tr σ H1 fun xs H2 => QA (x :: xs) H2) : tCons ta tr σ H QA := q
theorem w_int1 {i : Int} (q : Q (.int i) H) : rInt1 [.int i] H Q := .inl ⟨i, rfl, q⟩
theorem w_int1b {k : Bool} (q : Q (.int (if k then 1 else 0)) H) : rInt1 [.bl k] H Q := .inr ⟨k, rfl, q⟩
theorem w_abs {i : Int} (q : Q (.int (if i < 0 then -i else i)) H) : rAbs [.int i] H Q := ⟨i, rfl, q⟩
theorem w_max2 {i j : Int} (q : Q (.int (if j > i then j else i)) H) : rMax2 [.int i, .int j] H Q := ⟨i, j, rfl, q⟩
theorem w_min2 {i j : Int} (q : Q (.int (if j < i then j else i)) H) : rMin2 [.int i, .int j] H Q := ⟨i, j, rfl, q⟩
theorem w_lenS {p : Addr} {ys : List V} {b : Bool} (h : Sq b K H p ys) (q : Q (.int ys.length) H) : rLenS K [.ref p] H Q := ⟨p, ys, rfl, h.or, q⟩
theorem w_lenI {p : Addr} {ns : List Int} {b : Bool} (h : Sq b K H p (ns.map V.int)) (q : Q (.int ns.length) H) : rLenS K [.ref p] H Q := ⟨p, _, rfl, h.or, by rw [List.length_map]; exact q⟩
theorem w_sumI {p : Addr} {ns : List Int} {b : Bool} (h : Sq b K H p (ns.map V.int)) (q : Q (.int ns.sum) H) : rSumS K [.ref p] H Q := ⟨p, ns, rfl, h.or, q⟩
theorem w_listS {p : Addr} {ys : List V} {b : Bool} (h : Sq b K H p ys) (q : ∀ l, H l = none → Q (.ref l) (upd H l (.lst ys))) : rListS K [.ref p] H Q := ⟨p, ys, rfl, h.or, q⟩
theorem w_tupL {p : Addr} {ys : List V} (h : Sq true K H p ys) (q : ∀ l, H l = none → Q (.ref l) (upd H l (.tup ys))) : rTupS K [.ref p] H Q := ⟨p, ys, rfl, .inl ⟨h, q⟩⟩
theorem w_tupT {p : Addr} {ys : List V} (h : Sq false K H p ys) (q : Q (.ref p) H) : rTupS K [.ref p] H Q := ⟨p, ys, rfl, .inr ⟨h, q⟩⟩
theorem w_ix {b : Bool} {p : Addr} {xs : List V} {i : Int} (h : Sq b K H p xs) (ha : atI xs i = some v) (q : Q v H) : rIx K (.ref p) (.int i) H Q := by
  rcases h.or with h | h
  · exact .inl ⟨p, xs, i, v, rfl, rfl, h, ha, q⟩
  · exact .inr (.inl ⟨p, xs, i, v, rfl, rfl, h, ha, q⟩)
theorem w_ixI {b : Bool} {p : Addr} {ns : List Int} {i : Int} (h : Sq b K H p (ns.map V.int)) (h0 : 0 ≤ i) (h1 : i < ns.length) (q : Q (.int (nth ns i)) H) : rIx K (.ref p) (.int i) H Q := w_ix h (nth_at h0 h1) q
theorem w_tupD {ta : TA} (q : ta σ H fun xs H1 => xs.length ≤ sizeLine ∧ ∀ p, H1 p = none → Q (.ref p) (upd H1 p (.tup xs))) : tTup ta σ H Q := q
theorem w_lstD {ta : TA} (q : ta σ H fun xs H1 => xs.length ≤ sizeLine ∧ ∀ p, H1 p = none → Q (.ref p) (upd H1 p (.lst xs))) : tLst ta σ H Q := q
theorem w_call {sp : Sp} {dvs : List V} {E : XK} {ta : TA} (q : ta σ H fun vs H1 => sp (vs ++ dvs) H1 Q E) : tCall sp dvs E ta σ H Q := q
theorem w_andV (q : ta σ H fun x H1 => ∃ c, x = .bl c ∧ if c = true then tb σ H1 Q else Q (.bl false) H1) : tAndV ta tb σ H Q := q
theorem w_orV (q : ta σ H fun x H1 => ∃ c, x = .bl c ∧ if c = true then Q (.bl true) H1 else tb σ H1 Q) : tOrV ta tb σ H Q := q
theorem w_notV (q : ta σ H fun x H1 => ∃ c, x = .bl c ∧ Q (.bl (!c)) H1) : tNotV ta σ H Q := q
-- methods of lists
theorem w_bm {T : String} {r : V → List V → Hp → VK → Prop} {to : TE} {ta : TA} (q : to σ H fun x H1 => tyV K T x H1 ∧ ta σ H1 fun xs H2 => r x xs H2 Q) : tBM K T r to ta σ H Q := q
theorem w_append {l : Addr} {xs : List V} (h : H l = some (.lst xs)) (hz : xs.length < sizeLine) (q : Q .non (upd H l (.lst (xs ++ [y])))) : rAppend (.ref l) [y] H Q := ⟨l, xs, y, rfl, rfl, h, hz, q⟩
theorem w_tyL {l : Addr} {xs : List V} {B : Prop} (h : Sq true K H l xs) (q : B) : tyV K "list" (.ref l) H ∧ B := ⟨.inl ⟨rfl, _, h⟩, q⟩
-- tests
theorem w_test (q : ta σ H fun x H' => ∃ k, x = .bl k ∧ QB k H') : tTest ta σ H QB := q
theorem w_tB (q : ta σ H fun x H' => ∃ k, x = .bl k ∧ QB k H') : tB ta σ H QB := q
theorem w_tru (q : ta σ H fun x H' => ∃ k, TruV K x H' k ∧ QB k H') : tTru K ta σ H QB := q
theorem w_exb {b : Bool} {F : Bool → Prop} (q : F b) : ∃ k, V.bl b = .bl k ∧ F k := ⟨b, rfl, q⟩
theorem w_truB {b : Bool} {F : Bool → Prop} (q : F b) : ∃ k, TruV K (.bl b) H k ∧ F k := ⟨b, rfl, q⟩
theorem w_truI {i : Int} {F : Bool → Prop} (q : F (i != 0)) : ∃ k, TruV K (.int i) H k ∧ F k := ⟨_, rfl, q⟩
theorem w_not (q : c σ H fun b H1 => QB (!b) H1) : tNot c σ H QB := q
theorem w_and (q : c σ H fun b H1 => if b = true then d σ H1 QB else QB false H1) : tAnd c d σ H QB := q
theorem w_or (q : c σ H fun b H1 => if b = true then QB true H1 else d σ H1 QB) : tOr c d σ H QB := q
theorem w_ifE (q : c σ H fun b H1 => if b = true then ta σ H1 Q else tb σ H1 Q) : tIf c ta tb σ H Q := q
theorem w_iteD {p A B : Prop} {_ : Decidable p} (h1 : p → A) (h2 : ¬ p → B) : if decide p = true then A else B := by
  by_cases h : p
  · rw [if_pos (decide_eq_true h)]; exact h1 h
  · rw [if_neg (by simp [h])]; exact h2 h
theorem w_iteN {p A B : Prop} {_ : Decidable p} (h1 : ¬ p → A) (h2 : p → B) : if (!decide p) = true then A else B := by
  by_cases h : p
  · rw [if_neg (by simp [h])]; exact h2 h
  · rw [if_pos (by simp [h])]; exact h1 h
theorem w_iteNT {A B : Prop} (h : B) : if (!true) = true then A else B := h
theorem w_iteNF {A B : Prop} (h : A) : if (!false) = true then A else B := h
theorem w_iteB {b : Bool} {A B : Prop} (h1 : b = true → A) (h2 : b = false → B) : if b = true then A else B := by
  cases b
  · exact h2 rfl
  · exact h1 rfl
-- statements
variable {f b' c' : St → Hp → Prop} {rt : VK}
theorem w_seq (q : t ⟨u ⟨f, rt, b', c'⟩, rt, b', c'⟩ σ H) : tSeq t u ⟨f, rt, b', c'⟩ σ H := q
theorem w_asg {g : TG} (q : te σ H fun x H1 => g x σ H1 f) : tAsg te g ⟨f, rt, b', c'⟩ σ H := q
theorem w_gName {i : Nat} {N : St → Hp → Prop} (q : N (σ.set i (some v)) H) : gName i v σ H N := q
theorem w_drop (q : te σ H fun _ H1 => f σ H1) : tDrop te ⟨f, rt, b', c'⟩ σ H := q
theorem w_ret (q : te σ H rt) : tRet te ⟨f, rt, b', c'⟩ σ H := q
theorem w_retN (q : rt .non H) : tRetN ⟨f, rt, b', c'⟩ σ H := q
theorem w_ifS (q : c σ H fun b H1 => if b = true then t D σ H1 else u D σ H1) : tIfS c t u D σ H := q
theorem w_next (q : f σ H) : tNext ⟨f, rt, b', c'⟩ σ H := q
theorem w_brk (q : b' σ H) : tBreak ⟨f, rt, b', c'⟩ σ H := q
theorem w_cont (q : c' σ H) : tCont ⟨f, rt, b', c'⟩ σ H := q
theorem w_nx {f b c : St → Hp → Prop} {r : VK} (q : f σ H) : Ends.nx ⟨f, r, b, c⟩ σ H := q
theorem w_rt {f b c : St → Hp → Prop} {r : VK} (q : r v H) : Ends.rt ⟨f, r, b, c⟩ v H := q
theorem w_bk {f b c : St → Hp → Prop} {r : VK} (q : b σ H) : Ends.bk ⟨f, r, b, c⟩ σ H := q
theorem w_ct {f b c : St → Hp → Prop} {r : VK} (q : c σ H) : Ends.ct ⟨f, r, b, c⟩ σ H := q
theorem w_augI {i : Nat} {g : Int → Int → Int} {z : Int} (hx : σ[i]? = some (some (.int z))) (q : te σ H fun y H1 => ipI g (.int z) y H1 fun z H2 => f (σ.set i (some z)) H2) : tAug i te (ipI g) ⟨f, rt, b', c'⟩ σ H := ⟨_, hx, q⟩
theorem w_ipI {f : Int → Int → Int} {i j : Int} (q : Q (.int (f i j)) H) : ipI f (.int i) (.int j) H Q := ⟨i, j, rfl, rfl, q⟩
-- slices
theorem w_sl {r : V → Option Int → Option Int → Hp → VK → Prop} {tl th : TO} (q : te σ H fun x H1 => tl σ H1 fun l H2 => th σ H2 fun u H3 => r x l u H3 Q) : tSl r te tl th σ H Q := q
theorem w_noPart {QO : Option Int → Hp → Prop} (q : QO none H) : tNoPart σ H QO := q
theorem w_part {QO : Option Int → Hp → Prop} (q : te σ H fun x H1 => ∃ i, x = .int i ∧ QO (some i) H1) : tPart te σ H QO := q
theorem w_exi {i : Int} {F : Int → Prop} (q : F i) : ∃ k, V.int i = .int k ∧ F k := ⟨i, rfl, q⟩
theorem w_slL {a : Addr} {xs : List V} {lo hi : Option Int} (h : Sq true K H a xs) (q : ∀ p, H p = none → Q (.ref p) (upd H p (.lst (cutV xs lo hi)))) : rSlG K (.ref a) lo hi H Q := .inl ⟨a, xs, rfl, h, q⟩
-- loops
end
/-- what a for asks of its walk J -/
def LoopOk (J : It) (g : TG) (tb : TS) (D : Ends) (σ : St) (H : Hp) : Prop := ∃ W : Nat → Nat → St → Hp → Prop, (∃ m, W 0 m σ H) ∧ ∀ i m σ H, W i m σ H →
  (J.stop i H ∧ D.nx σ H) ∨ (J.go i H ∧ ∃ N : St → Hp → Prop, (∀ σ' H', N σ' H' → ∃ m', m' < m ∧ W (i + 1) m' σ' H') ∧ ∀ x H', J.yld i H x H' → g x σ H' fun σ2 H2 => tb { D with nx := N, ct := N, bk := D.nx } σ2 H2)
section
variable {K : PySem.W.Frag} {σ σ' : St} {H : Hp} {t : TS} {D : Ends} {g : TG} {f b' c' : St → Hp → Prop} {rt : VK}
theorem w_for {wi : TI} (q : wi σ H fun J H1 => LoopOk J g t D σ H1) : tFor wi g t D σ H := q
theorem w_iRng1 {ta : TA} {R : It → Hp → Prop} (q : ta σ H fun vs H1 => ∃ j : Int, vs = [.int j] ∧ -(2 ^ 62) ≤ j ∧ j < 2 ^ 62 ∧ R (Itr 0 j.toNat) H1) : iRng1 ta σ H R := q
theorem w_iRng2 {ta : TA} {R : It → Hp → Prop} (q : ta σ H fun vs H1 => ∃ i j : Int, vs = [.int i, .int j] ∧ (-(2 ^ 62) ≤ i ∧ i < 2 ^ 62 ∧ -(2 ^ 62) ≤ j ∧ j < 2 ^ 62) ∧ R (Itr i (j - i).toNat) H1) : iRng2 ta σ H R := q
theorem l_it {J : It} {n : Nat} {G : Hp → Prop} {Y : Nat → Hp → V → Hp → Prop} (w : Walk J n G Y) (Pv : Nat → St → Hp → Prop) (h0 : Pv 0 σ H) (hG : ∀ i σ H, i ≤ n → Pv i σ H → G H)
    (hs : ∀ i x σ H H', i < n → Pv i σ H → Y i H x H' → g x σ H' fun σ2 H2 => t ⟨Pv (i + 1), rt, f, Pv (i + 1)⟩ σ2 H2) (hd : ∀ σ H, Pv n σ H → f σ H) : LoopOk J g t ⟨f, rt, b', c'⟩ σ H := for_it w Pv h0 hG hs hd
/-- for k in range(n) -/
theorem l_range {n : Int} {k : Nat} (Pv : Nat → St → Hp → Prop) (h1 : -(2 ^ 62) ≤ n) (h2 : n < 2 ^ 62) (h0 : Pv 0 σ H)
    (hs : ∀ (i : Nat) σ' H', (i : Int) < n → Pv i σ' H' → t ⟨Pv (i + 1), rt, f, Pv (i + 1)⟩ (σ'.set k (some (.int (i : Int)))) H') (hd : ∀ σ' H', Pv n.toNat σ' H' → f σ' H') :
    ∃ j : Int, [V.int n] = [.int j] ∧ -(2 ^ 62) ≤ j ∧ j < 2 ^ 62 ∧ LoopOk (Itr 0 j.toNat) (gName k) t ⟨f, rt, b', c'⟩ σ H := by
  refine ⟨n, rfl, h1, h2, l_it walk_range Pv h0 (fun _ _ _ _ _ => trivial) (fun i x σ' H1 H2 hi hp hy => ?_) hd⟩
  obtain ⟨e, ex⟩ := hy
  subst e ex
  show gName k (V.int (0 + (i : Int))) σ' _ _
  rw [Int.zero_add]
  exact hs i σ' _ (by omega) hp
theorem l_range2 {lo n : Int} {k : Nat} (Pv : Nat → St → Hp → Prop) (h1 : -(2 ^ 62) ≤ lo ∧ lo < 2 ^ 62 ∧ -(2 ^ 62) ≤ n ∧ n < 2 ^ 62) (h0 : Pv 0 σ H)
    (hs : ∀ (i : Nat) σ' H', lo + (i : Int) < n → Pv i σ' H' → t ⟨Pv (i + 1), rt, f, Pv (i + 1)⟩ (σ'.set k (some (.int (lo + (i : Int))))) H') (hd : ∀ σ' H', Pv (n - lo).toNat σ' H' → f σ' H') :
    ∃ i j : Int, [V.int lo, V.int n] = [.int i, .int j] ∧ (-(2 ^ 62) ≤ i ∧ i < 2 ^ 62 ∧ -(2 ^ 62) ≤ j ∧ j < 2 ^ 62) ∧ LoopOk (Itr i (j - i).toNat) (gName k) t ⟨f, rt, b', c'⟩ σ H := by
  refine ⟨lo, n, rfl, h1, l_it walk_range Pv h0 (fun _ _ _ _ _ => trivial) (fun i x σ' H1 H2 hi hp hy => ?_) hd⟩
  obtain ⟨e, ex⟩ := hy
  subst e ex
  exact hs i σ' _ (by omega) hp
end

/-! ### for x in (a list or a tuple), enumerate of either: what is walked is reckoned first -/
def iSeq (K : PySem.W.Frag) (tl : TE) : TI := fun σ H R => tl σ H fun x H1 => ∃ a, x = .ref a ∧ ((∃ xs, SqL K H1 a xs) ∧ R (Itl K a) H1 ∨ (∃ xs, SqT K H1 a xs) ∧ R (Itt K a) H1)
section
variable {X : Cx}
theorem pi_seqS {tg l : Expr} {tl : TE} (hl : PE X l tl) : PI X tg l (iSeq X.K tl) := by
  refine ⟨fun pins s σ H R I h => ?_⟩
  refine thn (hl.run pins s σ H _ I h) fun v s1 ⟨x, H1, I1, r1, q1⟩ => ?_
  obtain ⟨a, e, q1⟩ := q1
  subst e
  cases r1
  rcases q1 with ⟨⟨xs, hq⟩, q⟩ | ⟨⟨xs, hq⟩, q⟩
  · obtain ⟨its, rv, p, hz⟩ := I1.list hq
    refine wpAny_pyIter_list p.isList ?_
    refine ⟨s1.heap.objs.size, [s1.heap.objs.size], _, _, H1, rfl, I1.kept (t' := s1.toks) fun b o e => Heap.get?_push_of_some _ e, turn_list a _, ⟨_, Heap.get?_push_size _ rfl, rfl, rfl⟩, fun b hb => ?_, q⟩
    have e : b = s1.heap.objs.size := by simpa using hb
    subst e
    exact I1.fpOk (Nat.le_refl _) (I1.hok.fresh (Nat.le_refl _))
  · obtain ⟨its, rv, p, hz⟩ := I1.tuple hq
    refine wpAny_pyIter_tuple (show s1.heap.IsTuple a its.toArray from p) ?_
    refine ⟨s1.heap.objs.size, [s1.heap.objs.size], _, _, H1, rfl, I1.kept (t' := s1.toks) fun b o e => Heap.get?_push_of_some _ e, turn_tuple a _, ⟨_, Heap.get?_push_size _ rfl, rfl, rfl⟩, fun b hb => ?_, q⟩
    have e : b = s1.heap.objs.size := by simpa using hb
    subst e
    exact I1.fpOk (Nat.le_refl _) (I1.hok.fresh (Nat.le_refl _))
def iEnumS (K : PySem.W.Frag) (ta : TA) : TI := fun σ H R => ta σ H fun vs H1 => ∃ a, vs = [.ref a] ∧ ((∃ xs, SqL K H1 a xs) ∧ R (Ite K a) H1 ∨ (∃ xs, SqT K H1 a xs) ∧ R (IteT K a) H1)
theorem pi_enumS {e : Expr} {ta : TA} {p pos tpos : Pos} {elts : List Expr} {kk : Nat} (hg : Gl X "enumerate") (hm : X.mg "enumerate" = none) (ha : PA X [e] ta) (hs : starEach [e] X.env = [(false, eval e X.env)] := by rfl) :
    PI X (.Tuple elts kk tpos) (.Call (.Name "enumerate" p) [e] [] pos) (iEnumS X.K ta) := by
  refine ⟨fun pins s σ H R I h => ?_⟩
  refine Call_ (ld_blt I hg hm boot_enumerate (PyProof.Rows.callWith_type1 (thn (ha.run pos pins s σ H _ I h) fun us s1 ⟨vs, H1, I1, r1, q1⟩ => ?_) hs rfl))
  obtain ⟨a, ex, q1⟩ := q1
  subst ex
  cases r1 with
  | cons r rr =>
    cases rr
    cases r
    have fp : ∀ b ∈ [s1.heap.objs.size + 1, s1.heap.objs.size], FpOk X pins H1 b := fun b hb => by
      have e' : b = s1.heap.objs.size + 1 ∨ b = s1.heap.objs.size := by simpa using hb
      have hle : s1.heap.objs.size ≤ b := by
        rcases e' with z | z
        · rw [z]; exact Nat.le_add_right _ _
        · rw [z]; exact Nat.le_refl _
      exact I1.fpOk hle (I1.hok.fresh hle)
    rcases q1 with ⟨⟨xs, hq⟩, q⟩ | ⟨⟨xs, hq⟩, q⟩
    · obtain ⟨its, rv, p', hz⟩ := I1.list hq
      refine call_enumerate_list p'.isList fun h' he hit hsz hk => wpAny_pyIter_enum he ?_
      have I2 : Inv X pins σ H1 { s1 with heap := h' } := I1.kept (t' := s1.toks) hk
      exact ⟨s1.heap.objs.size + 1, [s1.heap.objs.size + 1, s1.heap.objs.size], _, _, H1, rfl, I2, turn_enum a (s1.heap.objs.size + 1) s1.heap.objs.size, ⟨⟨.none, he⟩, hit, Nat.succ_ne_self _⟩, fp, q⟩
    · obtain ⟨its, rv, p', hz⟩ := I1.tuple hq
      refine call_enumerate_tup p' fun h' he hit hsz hk => wpAny_pyIter_enum he ?_
      have I2 : Inv X pins σ H1 { s1 with heap := h' } := I1.kept (t' := s1.toks) hk
      exact ⟨s1.heap.objs.size + 1, [s1.heap.objs.size + 1, s1.heap.objs.size], _, _, H1, rfl, I2, turn_enumT a (s1.heap.objs.size + 1) s1.heap.objs.size, ⟨⟨.none, he⟩, hit, Nat.succ_ne_self _⟩, fp, q⟩
end
section
variable {K : PySem.W.Frag} {σ : St} {H : Hp} {t : TS} {D : Ends} {g : TG} {f b' c' : St → Hp → Prop} {rt : VK}
theorem w_iSeq {tl : TE} {R : It → Hp → Prop} (q : tl σ H fun x H1 => ∃ a, x = .ref a ∧ ((∃ xs, SqL K H1 a xs) ∧ R (Itl K a) H1 ∨ (∃ xs, SqT K H1 a xs) ∧ R (Itt K a) H1)) : iSeq K tl σ H R := q
theorem w_iEnumS {ta : TA} {R : It → Hp → Prop} (q : ta σ H fun vs H1 => ∃ a, vs = [.ref a] ∧ ((∃ xs, SqL K H1 a xs) ∧ R (Ite K a) H1 ∨ (∃ xs, SqT K H1 a xs) ∧ R (IteT K a) H1)) : iEnumS K ta σ H R := q
theorem l_seq {b : Bool} {a : Addr} (xs : List V) (Pv : Nat → St → Hp → Prop) (h : Sq b K H a xs) (h0 : Pv 0 σ H) (hG : ∀ i σ H, i ≤ xs.length → Pv i σ H → Sq b K H a xs)
    (hs : ∀ (i : Nat) x σ' H', i < xs.length → xs[i]? = some x → Pv i σ' H' → g x σ' H' fun σ2 H2 => t ⟨Pv (i + 1), rt, f, Pv (i + 1)⟩ σ2 H2) (hd : ∀ σ' H', Pv xs.length σ' H' → f σ' H') :
    ∃ a', V.ref a = .ref a' ∧ ((∃ xs, SqL K H a' xs) ∧ LoopOk (Itl K a') g t ⟨f, rt, b', c'⟩ σ H ∨ (∃ xs, SqT K H a' xs) ∧ LoopOk (Itt K a') g t ⟨f, rt, b', c'⟩ σ H) := by
  refine ⟨a, rfl, ?_⟩
  cases b with
  | true =>
    refine .inl ⟨⟨xs, h⟩, l_it (walk_list (xs := xs)) Pv h0 hG (fun i x σ' H1 H2 hi hp hy => ?_) hd⟩
    obtain ⟨e, ex⟩ := hy
    subst e
    exact hs i x σ' _ hi ex hp
  | false =>
    refine .inr ⟨⟨xs, h⟩, l_it (walk_tup (xs := xs)) Pv h0 hG (fun i x σ' H1 H2 hi hp hy => ?_) hd⟩
    obtain ⟨e, ex⟩ := hy
    subst e
    exact hs i x σ' _ hi ex hp
theorem l_enum {b : Bool} {a : Addr} (xs : List V) (Pv : Nat → St → Hp → Prop) (h : Sq b K H a xs) (h0 : Pv 0 σ H) (hG : ∀ i σ H, i ≤ xs.length → Pv i σ H → Sq b K H a xs)
    (hs : ∀ (i : Nat) x (T : Addr) σ' H', i < xs.length → xs[i]? = some x → Pv i σ' H' → H' T = none → g (.ref T) σ' (upd H' T (.tup [.int (i : Int), x])) fun σ2 H2 => t ⟨Pv (i + 1), rt, f, Pv (i + 1)⟩ σ2 H2) (hd : ∀ σ' H', Pv xs.length σ' H' → f σ' H') :
    ∃ a', [V.ref a] = [.ref a'] ∧ ((∃ xs, SqL K H a' xs) ∧ LoopOk (Ite K a') g t ⟨f, rt, b', c'⟩ σ H ∨ (∃ xs, SqT K H a' xs) ∧ LoopOk (IteT K a') g t ⟨f, rt, b', c'⟩ σ H) := by
  refine ⟨a, rfl, ?_⟩
  cases b with
  | true =>
    refine .inl ⟨⟨xs, h⟩, l_it (walk_enum (xs := xs)) Pv h0 hG (fun i x σ' H1 H2 hi hp hy => ?_) hd⟩
    obtain ⟨T, u, v, rfl, hT, e, hu, hv⟩ := hy
    cases hu
    subst e
    exact hs i v T σ' _ hi hv hp hT
  | false =>
    refine .inr ⟨⟨xs, h⟩, l_it (walk_enumT (xs := xs)) Pv h0 hG (fun i x σ' H1 H2 hi hp hy => ?_) hd⟩
    obtain ⟨T, u, v, rfl, hT, e, hu, hv⟩ := hy
    cases hu
    subst e
    exact hs i v T σ' _ hi hv hp hT
/-- a, b = (a new pair) -/
theorem w_pair {i j : Nat} {a : Addr} {x y : V} {N : St → Hp → Prop} (h : Sq false K H a [x, y]) (q : N ((σ.set i (some x)).set j (some y)) H) : gTup K 2 (gCons (gName i) (gCons (gName j) gNil)) (.ref a) σ H N :=
  ⟨a, [x, y], rfl, h, rfl, x, [y], rfl, y, [], rfl, rfl, q⟩
end
end L2

namespace L2
open PySem PySem.Spec PyProof.Rows
/-! ### stores into lists, cuts, isinstance, lists of numbers -/
section
variable {K : PySem.W.Frag} {σ : St} {H : Hp} {v x : V} {D : Ends} {t u : TS} {Q : VK} {ta tb : TE}
theorem w_gSub {r : TSet} {N : St → Hp → Prop} (q : ta σ H fun o H1 => tb σ H1 fun i H2 => r o i v H2 fun H3 => N σ H3) : gSub ta tb r v σ H N := q
theorem w_setI {p : Addr} {ns : List Int} {k z : Int} {N : Hp → Prop} (h : H p = some (.lst (ns.map V.int))) (h0 : 0 ≤ k) (h1 : k < ns.length) (q : N (upd H p (.lst ((ns.set k.toNat z).map V.int)))) : rSetL (.ref p) (.int k) (.int z) H N := by
  refine ⟨p, ns.map V.int, k, k.toNat, rfl, rfl, h, ?_, ?_⟩
  · unfold ixN
    rw [if_pos h0, if_pos (by rw [List.length_map]; omega)]
  · rw [← List.map_set]; exact q
theorem w_setL {p : Addr} {xs : List V} {k : Int} {N : Hp → Prop} (h : H p = some (.lst xs)) (h0 : 0 ≤ k) (h1 : k < xs.length) (q : N (upd H p (.lst (xs.set k.toNat v)))) : rSetL (.ref p) (.int k) v H N := by
  refine ⟨p, xs, k, k.toNat, rfl, rfl, h, ?_, q⟩
  unfold ixN
  rw [if_pos h0, if_pos (by omega)]
theorem w_cut {f b' c' : St → Hp → Prop} {rt : VK} (Mid : St → Hp → Prop) (h1 : t ⟨Mid, rt, b', c'⟩ σ H) (h2 : ∀ σ' H', Mid σ' H' → u ⟨f, rt, b', c'⟩ σ' H') : Evl.tCut t u ⟨f, rt, b', c'⟩ σ H := ⟨Mid, h1, h2⟩
theorem w_isi {tn cn : String} {b : Bool} (ht : TyX K H x (.type tn)) (hk : kitB tn cn = some b) (q : Q (.bl b) H) : rIsi K [x, .ty cn] H Q := ⟨x, .ty cn, _, _, b, rfl, .ty cn, ht, kit_ty hk, q⟩
theorem tyx_tup {a : Addr} {xs : List V} (h : SqT K H a xs) : TyX K H (.ref a) (.type "tuple") := by
  rcases h with (h | ⟨o, h⟩) | ⟨o, its, n, h1, h2, _⟩
  · exact .base (.tup h)
  · exact .fTuple h
  · exact .kTuple h1 h2
theorem tyx_lst {a : Addr} {xs : List V} (h : SqL K H a xs) : TyX K H (.ref a) (.type "list") := by
  rcases h with (h | ⟨o, h⟩) | ⟨o, its, n, h1, h2, _⟩
  · exact .base (.lst h)
  · exact .base (.frz h)
  · exact .kList h1 h2
end
theorem last_at_neg {ns : List Int} (h : 0 < ns.length) : ∃ z, z ∈ ns ∧ atI (ns.map V.int) (-1) = some (.int z) := by
  refine ⟨ns[ns.length - 1], List.getElem_mem _, ?_⟩
  unfold atI ixN
  rw [if_neg (by decide), if_pos (by rw [List.length_map]; omega)]
  show (ns.map V.int)[(-1 + (((ns.map V.int).length : Nat) : Int)).toNat]? = _
  rw [List.length_map, show (-1 + ((ns.length : Nat) : Int)).toNat = ns.length - 1 by omega, List.getElem?_map, List.getElem?_eq_getElem (by omega)]
  rfl
theorem sum_nonneg : ∀ {ns : List Int}, (∀ x ∈ ns, (0 : Int) ≤ x) → 0 ≤ ns.sum
  | [], _ => by simp
  | a :: r, h => by
    have h1 := h a (List.mem_cons_self ..)
    have h2 := sum_nonneg (ns := r) fun x hx => h x (List.mem_cons_of_mem _ hx)
    rw [List.sum_cons]; omega
theorem sum_ge_mem : ∀ {ns : List Int} {z : Int}, (∀ x ∈ ns, (0 : Int) ≤ x) → z ∈ ns → z ≤ ns.sum
  | a :: r, z, h, hz => by
    have h1 := h a (List.mem_cons_self ..)
    have h2 := sum_nonneg (ns := r) fun x hx => h x (List.mem_cons_of_mem _ hx)
    rw [List.sum_cons]
    rcases List.mem_cons.mp hz with e | e
    · subst e; omega
    · have := sum_ge_mem (ns := r) (fun x hx => h x (List.mem_cons_of_mem _ hx)) e
      omega
/-- the same data by _law_same: no deeper than n -/
def Sm (K : PySem.W.Frag) (H : Hp) : Nat → V → V → Prop
  | 0, x, y => x = y ∧ (x = .non ∨ (∃ b, x = .bl b) ∨ (∃ i, x = .int i) ∨ ∃ s, x = .str s)
  | n + 1, x, y => (x = y ∧ (x = .non ∨ (∃ b, x = .bl b) ∨ (∃ i, x = .int i) ∨ ∃ s, x = .str s)) ∨
    ∃ (a a' : Addr) (k : Bool) (xs ys : List V), x = .ref a ∧ y = .ref a' ∧ SqT K H a xs ∧ Sq k K H a' ys ∧ xs.length = ys.length ∧ ys.length ≤ 100000 ∧ ∀ (i : Nat) x' y', xs[i]? = some x' → ys[i]? = some y' → Sm K H n x' y'
theorem Sm.int {K : PySem.W.Frag} {H : Hp} {n : Nat} {i : Int} : Sm K H n (.int i) (.int i) := by
  cases n
  · exact ⟨rfl, .inr (.inr (.inl ⟨i, rfl⟩))⟩
  · exact .inl ⟨rfl, .inr (.inr (.inl ⟨i, rfl⟩))⟩
theorem Same.sm {K : PySem.W.Frag} {H H' : Hp} (e : Same H H') : ∀ {n : Nat} {x y : V}, Sm K H n x y → Sm K H' n x y
  | 0, _, _, h => h
  | n + 1, _, _, h => by
    rcases h with h | ⟨a, a', k, xs, ys, h1, h2, h3, h4, h5, hz, h6⟩
    · exact .inl h
    · exact .inr ⟨a, a', k, xs, ys, h1, h2, e.seqT h3, e.sq h4, h5, hz, fun i x' y' hx hy => Same.sm e (h6 i x' y' hx hy)⟩
end L2

namespace L2
open PySem PySem.Spec PyProof.Rows
/-! ### lists of numbers: cut, compared, looked into -/
section
variable {K : PySem.W.Frag} {H : Hp} {Q : VK}
theorem cutV_to (ns : List Int) {j : Int} (hj : 0 ≤ j) : cutV (ns.map V.int) none (some j) = (ns.take j.toNat).map V.int := by
  have e : j = ((j.toNat : Nat) : Int) := (Int.toNat_of_nonneg hj).symm
  unfold cutV
  rw [HT.sIx_none, e, HT.sIx_nat, List.drop_zero, Nat.sub_zero, Int.toNat_natCast, List.map_take, List.length_map]
  rcases Nat.le_total j.toNat ns.length with h | h
  · rw [Nat.min_eq_left h]
  · rw [Nat.min_eq_right h, List.take_of_length_le (by rw [List.length_map]; exact Nat.le_refl _), List.take_of_length_le (by rw [List.length_map]; exact h)]
theorem w_slTo {a : Addr} {ns : List Int} {j : Int} (h : Sq true K H a (ns.map V.int)) (hj : 0 ≤ j) (q : ∀ p, H p = none → Q (.ref p) (upd H p (.lst ((ns.take j.toNat).map V.int)))) : rSlG K (.ref a) none (some j) H Q :=
  .inl ⟨a, ns.map V.int, rfl, h, fun p hp => by rw [cutV_to ns hj]; exact q p hp⟩
theorem dpAll_ints {ns : List Int} : DpAll K H (ns.map V.int) (ns.map PyData.int) := by
  induction ns with
  | nil => exact .nil
  | cons a r ih => exact .cons (.int a) ih
theorem dp_ints {b : Bool} {a : Addr} {ns : List Int} (h : Sq b K H a (ns.map V.int)) : Dp K H (.ref a) (if b then .list (ns.map PyData.int) else .tuple (ns.map PyData.int)) := by
  cases b
  · exact .tup h dpAll_ints
  · exact .lst h dpAll_ints
theorem canLay_ints (ns : List Int) : PyData.canLayAll0 (ns.map PyData.int) = true := by
  induction ns with
  | nil => rfl
  | cons a r ih => simp only [List.map_cons, PyData.canLayAll0, PyData.canLay0, ih, Bool.and_self]
theorem depth_ints (ns : List Int) : PyData.depthAll (ns.map PyData.int) = 0 := by
  induction ns with
  | nil => rfl
  | cons a r ih => simp only [List.map_cons, PyData.depthAll, PyData.depth, ih, Nat.max_self]
theorem shaped_ints (ns : List Int) : SeqAt.shaped (.list (ns.map PyData.int)) = true := by
  simp [SeqAt.shaped, PyData.canLay0, PyData.depth, canLay_ints, depth_ints]
theorem shaped_intsT (ns : List Int) : SeqAt.shaped (.tuple (ns.map PyData.int)) = true := by
  simp [SeqAt.shaped, PyData.canLay0, PyData.depth, canLay_ints, depth_ints]
theorem eqvAll_ints (ns : List Int) : PyData.eqvAll (ns.map PyData.int) (ns.map PyData.int) = true := by
  induction ns with
  | nil => rfl
  | cons a r ih => simp only [List.map_cons, PyData.eqvAll, PyData.eqv, ih, beq_self_eq_true, Bool.and_self]
theorem w_neInts {a a' : Addr} {ns : List Int} (h : Sq true K H a (ns.map V.int)) (h' : Sq true K H a' (ns.map V.int)) (q : Q (.bl false) H) : rNeG K (.ref a) (.ref a') H Q :=
  w_neD (dp_ints h) (dp_ints h') (shaped_ints ns) (shaped_ints ns) (by
    have e : PyData.eqv (.list (ns.map PyData.int)) (.list (ns.map PyData.int)) = true := by simp only [PyData.eqv, eqvAll_ints]
    show Q (.bl (!PyData.eqv (.list (ns.map PyData.int)) (.list (ns.map PyData.int)))) H
    rw [e]; exact q)
theorem flat_ints (ns : List Int) : (ns.map V.int).all flatV = true := by
  induction ns with
  | nil => rfl
  | cons a r ih => simp only [List.map_cons, List.all_cons, ih, Bool.and_true]; rfl
theorem eqV_int (i j : Int) : eqV (.int i) (.int j) = (i == j) := rfl
theorem w_maxI {a : Addr} {ns : List Int} (h : Sq true K H a (ns.map V.int)) (hp : 0 < ns.length) (q : ∀ m, m ∈ ns → (∀ y, y ∈ ns → y ≤ m) → Q (.int m) H) : rMax K [.ref a] H Q := ⟨a, ns, rfl, h, hp, q⟩
theorem w_indexI {a : Addr} {ns : List Int} {z : Int} {j : Nat} (h : Sq true K H a (ns.map V.int)) (hj : j < ns.length) (e : nth ns (j : Nat) = z) (hno : ∀ m : Nat, m < j → nth ns (m : Nat) ≠ z) (q : Q (.int (j : Nat)) H) : rIndex K (.ref a) [.int z] H Q := by
  have hg : ∀ (m : Nat), m < ns.length → (ns.map V.int)[m]? = some (.int (nth ns (m : Nat))) := fun m hm => by
    rw [List.getElem?_map, List.getElem?_eq_getElem hm, nth_nat, List.getD_eq_getElem?_getD, List.getElem?_eq_getElem hm]
    rfl
  refine ⟨a, ns.map V.int, .int z, j, .int z, rfl, rfl, h, rfl, flat_ints ns, by rw [hg j hj, e], by rw [eqV_int]; exact beq_self_eq_true z, fun m z' hm hz => ?_, q⟩
  rw [hg m (by omega)] at hz
  cases hz
  rw [eqV_int]
  exact beq_eq_false_iff_ne.mpr (hno m hm)
end
end L2

namespace L2
open PySem PySem.Spec PyProof.Rows
/-! ### zip of two, each a list (true) or a tuple (false) -/
def ItOf (b : Bool) (h : Heap) (it a : Addr) (i : Nat) : Prop := match b with
  | true => h.IsListIter it a i
  | false => h.IsTupleIter it a i
def SrcOf (b : Bool) (h : Heap) (a : Addr) (items : Array Value) : Prop := match b with
  | true => h.IsList a items
  | false => h.IsTuple a items
theorem ItOf.at {b : Bool} {h h' : Heap} {it a : Addr} {i : Nat} (x : ItOf b h it a i) (k : ∀ o, h.get? it = some o → h'.get? it = some o) : ItOf b h' it a i := by
  cases b with
  | true => exact Heap.IsListIter.at (show h.IsListIter it a i from x) k
  | false => exact Heap.IsTupleIter.at (show h.IsTupleIter it a i from x) k
theorem ItOf.obj {b : Bool} {h : Heap} {it a : Addr} {i : Nat} (x : ItOf b h it a i) : ∃ o, h.get? it = some o ∧ ∀ v, o.data ≠ .cell v := by
  cases b with
  | true => obtain ⟨o, e, _, d⟩ := (show h.IsListIter it a i from x); exact ⟨o, e, fun v q => by rw [d] at q; cases q⟩
  | false => obtain ⟨o, e, _, d⟩ := (show h.IsTupleIter it a i from x); exact ⟨o, e, fun v q => by rw [d] at q; cases q⟩
theorem SrcOf.ne {b : Bool} {h : Heap} {a it : Addr} {items : Array Value} {b' : Bool} {a' : Addr} {i : Nat} (p : SrcOf b h a items) (q : ItOf b' h it a' i) : a ≠ it := by
  intro e
  subst e
  have hp : ∃ o, h.get? a = some o ∧ (o.cls = .type "list" ∨ o.cls = .type "tuple") := by
    cases b with
    | true => obtain ⟨o, ho, hc, _⟩ := (show h.IsList a items from p); exact ⟨o, ho, .inl hc⟩
    | false => obtain ⟨o, ho, hc, _⟩ := (show h.IsTuple a items from p); exact ⟨o, ho, .inr hc⟩
  have hq : ∃ o, h.get? a = some o ∧ (o.cls = .type "list_iterator" ∨ o.cls = .type "tuple_iterator") := by
    cases b' with
    | true => obtain ⟨o, ho, hc, _⟩ := (show h.IsListIter a a' i from q); exact ⟨o, ho, .inl hc⟩
    | false => obtain ⟨o, ho, hc, _⟩ := (show h.IsTupleIter a a' i from q); exact ⟨o, ho, .inr hc⟩
  obtain ⟨o, ho, hc⟩ := hp
  obtain ⟨o', ho', hc'⟩ := hq
  rw [ho] at ho'
  cases ho'
  rcases hc with hc | hc <;> rcases hc' with hc' | hc' <;> (rw [hc] at hc'; exact absurd hc' (by decide))
theorem Inv.src {X : Cx} {pins : List (Addr × Obj)} {σ : St} {H : Hp} {s : Shared} {b : Bool} {a : Addr} {xs : List V} (I : Inv X pins σ H s) (h : Sq b X.K H a xs) : ∃ its : List Value, Vals xs its ∧ SrcOf b s.heap a its.toArray ∧ a < s.heap.objs.size := by
  cases b with
  | true =>
    obtain ⟨its, rv, p, _⟩ := I.list h
    exact ⟨its, rv, p.isList, p.lt⟩
  | false =>
    obtain ⟨its, rv, p, _⟩ := I.tuple h
    obtain ⟨o, ho, _⟩ := id p
    exact ⟨its, rv, p, Heap.lt_size ho⟩
theorem Inv.sq_inj {X : Cx} {pins : List (Addr × Obj)} {σ : St} {H : Hp} {s : Shared} {b : Bool} {a : Addr} {xs ys : List V} (I : Inv X pins σ H s) (h : Sq b X.K H a xs) (h' : Sq b X.K H a ys) : xs = ys := by
  cases b with
  | true => exact I.list_inj h h'
  | false => exact I.tuple_inj h h'
theorem drawsOf {prog : Program} {w : World} {A : Around} (b : Bool) (hh : A.handled = none) (it a : Addr) (hne : a ≠ it) (items : Array Value) :
    Draws prog w A it [it, a] items.size (fun i v => items[i]? = some v) (fun i h => ItOf b h it a i ∧ SrcOf b h a items) := by
  cases b with
  | true => exact Draws.list hh it a hne items
  | false => exact Draws.tuple hh it a hne items
def ItzS (b1 b2 : Bool) (K : PySem.W.Frag) (a b : Addr) : It :=
  ⟨fun i H => ∃ (xs ys : List V) (x y : V), Sq b1 K H a xs ∧ Sq b2 K H b ys ∧ xs[i]? = some x ∧ ys[i]? = some y,
    fun i H v H' => ∃ T x y, v = .ref T ∧ H T = none ∧ H' = upd H T (.tup [x, y]) ∧ (∀ xs, Sq b1 K H a xs → xs[i]? = some x) ∧ ∀ ys, Sq b2 K H b ys → ys[i]? = some y,
    fun i H => ∃ xs ys : List V, Sq b1 K H a xs ∧ Sq b2 K H b ys ∧ i ≤ xs.length ∧ i ≤ ys.length ∧ (xs.length ≤ i ∨ ys.length ≤ i)⟩
theorem turn_zipS {P : Program} {w : World} {K : PySem.W.Frag} {elts : List Expr} {kk : Nat} {tpos : Pos} (b1 b2 : Bool) {a b z TI TO i1 i2 : Addr} (D : ZipSep2 z TI TO i1 i2 [i1, a] [i2, b]) :
    Turn P w K (.Tuple elts kk tpos) (ItzS b1 b2 K a b) [z, TI, TO, i1, i2] z (fun i h => IsZip h z TI TO .none ∧ IsPair h TI (.ref i1) (.ref i2) ∧ (∃ x y, IsPair h TO x y) ∧ ItOf b1 h i1 a i ∧ ItOf b2 h i2 b i) where
  mem := by simp
  obj := fun i h st c hc => by
    obtain ⟨hz, hTI, ⟨x, y, hTO⟩, h1, h2⟩ := st
    have e' : c = z ∨ c = TI ∨ c = TO ∨ c = i1 ∨ c = i2 := by simpa using hc
    rcases e' with q | q | q | q | q
    · rw [q]; exact ⟨_, hz, fun v q => nomatch q⟩
    · rw [q]; exact ⟨_, hTI, fun v q => nomatch q⟩
    · rw [q]; exact ⟨_, hTO, fun v q => nomatch q⟩
    · rw [q]; exact h1.obj
    · rw [q]; exact h2.obj
  keep := fun i h h' st k => by
    obtain ⟨hz, hTI, ⟨x, y, hTO⟩, h1, h2⟩ := st
    exact ⟨k z (by simp) _ hz, k TI (by simp) _ hTI, ⟨x, y, k TO (by simp) _ hTO⟩, h1.at fun o q => k i1 (by simp) o q, h2.at fun o q => k i2 (by simp) o q⟩
  item := by
    intro X hP hw hK hc i pins s σ H E I hf st hg
    subst hP hw hK
    obtain ⟨hz, hTI, ⟨x0, y0, hTO⟩, h1, h2⟩ := st
    obtain ⟨xs, ys, x, y, hqx, hqy, hx, hy⟩ := hg
    obtain ⟨its, rv, p, la⟩ := I.src hqx
    obtain ⟨its2, rv2, p2, lb⟩ := I.src hqy
    obtain ⟨u, hu, ru⟩ := rv.get hx
    obtain ⟨u2, hu2, ru2⟩ := rv2.get hy
    have hzl : z < s.heap.objs.size := Heap.lt_size hz
    have hl1 : i < its.toArray.size := by simpa using (List.getElem?_eq_some_iff.mp hu).1
    have hl2 : i < its2.toArray.size := by simpa using (List.getElem?_eq_some_iff.mp hu2).1
    have hin : X.A.in1.handled = none := I.ok.hd hc
    refine wpAny_pyNext_zipD2_item D (drawsOf b1 hin i1 a (p.ne h1) its.toArray) (drawsOf b2 hin i2 b (p2.ne h2) its2.toArray) hz hTI hTO ⟨h1, p⟩ ⟨h2, p2⟩ hl1 hl2 fun w1 w2 h' tk e1 e2 z' TO' st1 st2 hT hsz hk => ?_
    have ew1 : w1 = u := by
      have g1 : its.toArray[i]? = some w1 := e1
      have g2 : its.toArray[i]? = some u := by simpa using hu
      rw [g1] at g2
      exact Option.some.inj g2
    have ew2 : w2 = u2 := by
      have g1 : its2.toArray[i]? = some w2 := e2
      have g2 : its2.toArray[i]? = some u2 := by simpa using hu2
      rw [g1] at g2
      exact Option.some.inj g2
    subst ew1 ew2
    refine ⟨_, rfl, wpAny_letOwnedTupleGo_zip (s := { s with heap := h', toks := tk }) z' fun h'' z'' sb => ?_⟩
    have hT2 : h''.get? s.heap.objs.size = some { cls := .type "tuple", data := .seq #[w1, w2] } := (sb.2 _ (Nat.ne_of_gt hzl)).trans hT
    have new : ObjOk X.prog X.w (upd H s.heap.objs.size (.tup [x, y])) h'' s.heap.objs.size (.tup [x, y]) :=
      ⟨by show 2 ≤ sizeLine; decide, [w1, w2], .cons ru (.cons ru2 .nil), ⟨_, hT2, rfl, _, rfl⟩⟩
    have I1 : Inv X pins σ (upd H s.heap.objs.size (.tup [x, y])) { s with heap := h'', toks := tk } :=
      I.turnedNew (t' := tk) (ch := [z, TI, TO, i1, i2]) (fun c o hb q => (sb.2 c (fun q' => hb (by simp [q']))).trans (hk c o (fun q' => hb (by simp [q'])) (fun q' => hb (by simp [q'])) (fun q' => hb (by simp [q'])) (fun q' => hb (by simp [q'])) q)) hf (Nat.le_refl _) new
    refine ⟨.ref s.heap.objs.size, _, I1, rfl, ⟨_, x, y, rfl, I.hok.fresh (Nat.le_refl _), rfl, fun l hl => by rw [I.sq_inj hl hqx]; exact hx, fun l hl => by rw [I.sq_inj hl hqy]; exact hy⟩, ⟨z'', ?_, ⟨w1, w2, ?_⟩, ?_, ?_⟩, fun c hcm => ?_⟩
    · exact (sb.2 _ D.TIz).trans (hk _ _ D.TIz D.TITO D.TIi1 D.TIi2 hTI)
    · exact (sb.2 _ D.TOz).trans TO'
    · exact st1.1.at fun o q => (sb.2 _ (Ne.symm D.zi1)).trans q
    · exact st2.1.at fun o q => (sb.2 _ (Ne.symm D.zi2)).trans q
    · have hlt : c < s.heap.objs.size := by
        have e' : c = z ∨ c = TI ∨ c = TO ∨ c = i1 ∨ c = i2 := by simpa using hcm
        rcases e' with q | q | q | q | q
        · rw [q]; exact hzl
        · rw [q]; exact Heap.lt_size hTI
        · rw [q]; exact Heap.lt_size hTO
        · rw [q]; obtain ⟨_, e1, _⟩ := h1.obj; exact Heap.lt_size e1
        · rw [q]; obtain ⟨_, e2, _⟩ := h2.obj; exact Heap.lt_size e2
      rw [upd_ne (Nat.ne_of_lt hlt)]
      exact (hf c hcm).1
  done := by
    intro X hP hw hK hc i pins s σ H E I hf st hg
    subst hP hw hK
    obtain ⟨hz, hTI, ⟨x0, y0, hTO⟩, h1, h2⟩ := st
    obtain ⟨xs, ys, hqx, hqy, le1, le2, hend⟩ := hg
    obtain ⟨its, rv, p, _⟩ := I.src hqx
    obtain ⟨its2, rv2, p2, _⟩ := I.src hqy
    have l1 := rv.length
    have l2 := rv2.length
    have hin : X.A.in1.handled = none := I.ok.hd hc
    refine wpAny_pyNext_zipD2_end D (drawsOf b1 hin i1 a (p.ne h1) its.toArray) (drawsOf b2 hin i2 b (p2.ne h2) its2.toArray) hz hTI hTO ⟨h1, p⟩ ⟨h2, p2⟩ (by simp; omega) (by simp; omega) (by simp; omega) fun h' tk hk => ⟨rfl, ?_⟩
    exact I.turnedL (t' := tk) (ch := [z, TI, TO, i1, i2]) (fun c o hb q => hk c o (fun q' => hb (by simp [q'])) (fun q' => hb (by simp [q'])) (fun q' => hb (by simp [q'])) (fun q' => hb (by simp [q'])) q) hf
  self := fun A i s Q E st h => wpAny_pyIter_zip st.1 h
theorem begins_src (b : Bool) (a : Addr) (items : Array Value) : ∃ o, Begins (.ref a) o (fun h => SrcOf b h a items) ∧ ∀ (h : Heap) (it : Addr), h.get? it = some o → ItOf b h it a 0 := by
  cases b with
  | true => exact ⟨_, begins_list a items, fun h it e => ⟨_, e, rfl, rfl⟩⟩
  | false => exact ⟨_, begins_tuple a items, fun h it e => ⟨_, e, rfl, rfl⟩⟩
def iZipS (K : PySem.W.Frag) (ta : TA) : TI := fun σ H R => ta σ H fun vs H1 => ∃ a b, vs = [.ref a, .ref b] ∧ ∃ b1 b2 xs ys, Sq b1 K H1 a xs ∧ Sq b2 K H1 b ys ∧ R (ItzS b1 b2 K a b) H1
theorem pi_zipS {X : Cx} {e e2 : Expr} {ta : TA} {p pos tpos : Pos} {elts : List Expr} {kk : Nat} (hg : Gl X "zip") (hm : X.mg "zip" = none) (ha : PA X [e, e2] ta)
    (hs : starEach [e, e2] X.env = (false, eval e X.env) :: starEach [e2] X.env := by rfl) (hpl : (backTo pos (starEach [e2] X.env)).any (·.1) = false := by rfl) :
    PI X (.Tuple elts kk tpos) (.Call (.Name "zip" p) [e, e2] [] pos) (iZipS X.K ta) := by
  refine ⟨fun pins s σ H R I h => ?_⟩
  refine Call_ (ld_blt I hg hm PyProof.Rows.boot_zip (PyProof.Rows.callWith_type1 (thn (ha.run pos pins s σ H _ I h) fun us s1 ⟨vs, H1, I1, r1, q1⟩ => ?_) hs hpl))
  obtain ⟨a, b, ex, b1, b2, xs, ys, hqx, hqy, q⟩ := q1
  subst ex
  cases r1 with
  | cons r rr =>
    cases rr with
    | cons r' rr =>
      cases rr
      cases r
      cases r'
      obtain ⟨its, rv, p1, la⟩ := I1.src hqx
      obtain ⟨its2, rv2, p2, lb⟩ := I1.src hqy
      obtain ⟨o1, B1, k1⟩ := begins_src b1 a its.toArray
      obtain ⟨o2, B2, k2⟩ := begins_src b2 b its2.toArray
      refine zip_begins2 B1 B2 p1 p2 fun h' hz hTI hTO g1 g2 hsz hk => wpAny_pyIter_zip hz ?_
      have I2 : Inv X pins σ H1 { s1 with heap := h' } := I1.kept (t' := s1.toks) hk
      refine ⟨s1.heap.objs.size + 4, [s1.heap.objs.size + 4, s1.heap.objs.size + 2, s1.heap.objs.size + 3, s1.heap.objs.size, s1.heap.objs.size + 1], _, _, H1, rfl, I2,
        turn_zipS b1 b2 (zip_sep2 (N := s1.heap.objs.size) (fp1 := [a]) (fp2 := [b]) (fun c hc => by rw [List.mem_singleton.mp hc]; exact la) (fun c hc => by rw [List.mem_singleton.mp hc]; exact lb)), ⟨hz, hTI, ⟨_, _, hTO⟩, k1 _ _ g1, k2 _ _ g2⟩, fun c hcm => ?_, q⟩
      have e' : c = s1.heap.objs.size + 4 ∨ c = s1.heap.objs.size + 2 ∨ c = s1.heap.objs.size + 3 ∨ c = s1.heap.objs.size ∨ c = s1.heap.objs.size + 1 := by simpa using hcm
      have hle : s1.heap.objs.size ≤ c := by
        rcases e' with z | z | z | z | z
        · rw [z]; exact Nat.le_add_right _ _
        · rw [z]; exact Nat.le_add_right _ _
        · rw [z]; exact Nat.le_add_right _ _
        · rw [z]; exact Nat.le_refl _
        · rw [z]; exact Nat.le_add_right _ _
      exact I1.fpOk hle (I1.hok.fresh hle)
theorem walk_zipS {b1 b2 : Bool} {K : PySem.W.Frag} {a b : Addr} {xs ys : List V} (hn : xs.length = ys.length) : Walk (ItzS b1 b2 K a b) xs.length (fun H => Sq b1 K H a xs ∧ Sq b2 K H b ys) (YPair (fun i => xs[i]?) (fun i => ys[i]?)) := by
  refine ⟨fun i _ hi q => ?_, fun _ q => ⟨xs, ys, q.1, q.2, Nat.le_refl _, by omega, .inl (Nat.le_refl _)⟩, fun i H v H' _ q y => ?_⟩
  · exact ⟨xs, ys, xs[i], ys[i], q.1, q.2, by simp [hi], by simp [show i < ys.length by omega]⟩
  · obtain ⟨T, x, z, h1, h2, h3, h4, h5⟩ := y
    exact ⟨T, x, z, h1, h2, h3, h4 xs q.1, h5 ys q.2⟩
section
variable {K : PySem.W.Frag} {σ : St} {H : Hp} {t : TS} {D : Ends} {g : TG} {f bk ct : St → Hp → Prop} {rt : VK}
theorem w_iZipS {ta : TA} {R : It → Hp → Prop} (q : ta σ H fun vs H1 => ∃ a b, vs = [.ref a, .ref b] ∧ ∃ b1 b2 xs ys, Sq b1 K H1 a xs ∧ Sq b2 K H1 b ys ∧ R (ItzS b1 b2 K a b) H1) : iZipS K ta σ H R := q
theorem l_zip {b1 b2 : Bool} {a b : Addr} (xs ys : List V) (hn : xs.length = ys.length) (Pv : Nat → St → Hp → Prop) (hx : Sq b1 K H a xs) (hy : Sq b2 K H b ys) (h0 : Pv 0 σ H) (hG : ∀ i σ H, i ≤ xs.length → Pv i σ H → Sq b1 K H a xs ∧ Sq b2 K H b ys)
    (hs : ∀ (i : Nat) x y (T : Addr) σ' H', i < xs.length → xs[i]? = some x → ys[i]? = some y → Pv i σ' H' → H' T = none → g (.ref T) σ' (upd H' T (.tup [x, y])) fun σ2 H2 => t ⟨Pv (i + 1), rt, f, Pv (i + 1)⟩ σ2 H2) (hd : ∀ σ' H', Pv xs.length σ' H' → f σ' H') :
    ∃ a' b', [V.ref a, V.ref b] = [.ref a', .ref b'] ∧ ∃ b1 b2 xs ys, Sq b1 K H a' xs ∧ Sq b2 K H b' ys ∧ LoopOk (ItzS b1 b2 K a' b') g t ⟨f, rt, bk, ct⟩ σ H := by
  refine ⟨a, b, rfl, b1, b2, xs, ys, hx, hy, l_it (walk_zipS hn) Pv h0 hG (fun i x σ' H1 H2 hi hp hy => ?_) hd⟩
  obtain ⟨T, u, v, rfl, hT, e, hu, hv⟩ := hy
  subst e
  exact hs i u v T σ' _ hi hu hv hp hT
end

/-! ### list comprehensions -/
/-- what a comprehension asks of its walk J -/
def CompOk (J : It) (g : TG) (tt : TT) (te : TE) (vs : List Nat) (σ : St) (H1 : Hp) (Q : VK) : Prop := ∀ D, H1 D = none → ∃ W : Nat → Nat → Hp → Prop, (∃ m, W 0 m (upd H1 D (.lst []))) ∧ ∀ i m H, W i m H →
  (J.stop i H ∧ Q (.ref D) H) ∨ (J.go i H ∧ ∃ Nx : Hp → Prop, (∀ H', Nx H' → ∃ m', m' < m ∧ W (i + 1) m' H') ∧ ∀ x H', J.yld i H x H' → g x (wipe σ vs) H' fun σ2 H2 => wipe σ2 vs = wipe σ vs ∧ tt σ2 H2 fun b H3 =>
    if b = true then te σ2 H3 fun y H4 => ∃ acc, H4 D = some (.lst acc) ∧ acc.length < sizeLine ∧ Nx (upd H4 D (.lst (acc ++ [y]))) else Nx H3)
/-- the heap without what stands at D -/
def hide (D : Addr) (H : Hp) : Hp := fun b => if b = D then none else H b
theorem hide_at (D : Addr) (H : Hp) : hide D H D = none := if_pos rfl
theorem hide_ne {D b : Addr} {H : Hp} (h : b ≠ D) : hide D H b = H b := if_neg h
theorem hide_same (D : Addr) (H : Hp) : Same (hide D H) H := fun b o e => by
  by_cases h : b = D
  · subst h; rw [hide_at] at e; cases e
  · rw [hide_ne h] at e; exact e
theorem same_hide {D : Addr} {H H' : Hp} (e : Same H H') (h : H D = none) : Same H (hide D H') := fun b o q => by
  rw [hide_ne (ne_of_none q h)]
  exact e b o q
theorem hide_upd (D : Addr) (H : Hp) (o : HO) : hide D (upd H D o) = hide D H := by
  funext b
  by_cases h : b = D
  · subst h; rw [hide_at, hide_at]
  · rw [hide_ne h, hide_ne h, upd_ne h]
theorem hide_mono {D : Addr} {H H' : Hp} (e : Same H H') : Same (hide D H) (hide D H') := fun b o q => by
  by_cases h : b = D
  · subst h; rw [hide_at] at q; cases q
  · rw [hide_ne h] at q ⊢; exact e b o q
/-- no tuple, nothing frozen -/
def NTup : Option HO → Prop
  | some (.tup _) => False
  | some (.frz _ _) => False
  | _ => True
theorem NTup.lst {H : Hp} {D : Addr} {acc : List V} (h : H D = some (.lst acc)) : NTup (H D) := by rw [h]; trivial
theorem NTup.ins {H : Hp} {D C dx : Addr} {fs : List (Str × V)} (h : H D = some (.ins C dx fs)) : NTup (H D) := by rw [h]; trivial
theorem sq_hide {K : PySem.W.Frag} {D p : Addr} {H : Hp} {xs : List V} (hD : NTup (H D)) (h : Sq false K H p xs) : Sq false K (hide D H) p xs := by
  have h : SqT K H p xs := h
  rcases h with (h | ⟨o, h⟩) | h
  · exact .inl (.inl (by rw [hide_ne (fun e => by rw [← e, h] at hD; exact hD)]; exact h))
  · exact .inl (.inr ⟨o, by rw [hide_ne (fun e => by rw [← e, h] at hD; exact hD)]; exact h⟩)
  · exact .inr h
section
variable {K : PySem.W.Frag} {σ : St} {H : Hp} {tt : TT} {te : TE} {g : TG} {vs : List Nat} {Q : VK}
theorem w_lc {wi : TI} (q : wi σ H fun J H1 => CompOk J g tt te vs σ H1 Q) : tLc wi g tt te vs σ H Q := q
/-- every turn gives one item: R of the turn, the item and the heap without the new list -/
theorem l_comp {J : It} {n : Nat} {G : Hp → Prop} {Y : Nat → Hp → V → Hp → Prop} (w : Walk J n G Y) (hz : n < sizeLine) (R : Nat → V → Hp → Prop) (hR : ∀ i y H1 H2, Same H1 H2 → R i y H1 → R i y H2) (hG : ∀ H', Same H H' → G H')
    (hY : ∀ i x H1 H2, i < n → Y i H1 x H2 → Same H1 H2)
    (hs : ∀ i x H1 H2 D acc (N : VK), i < n → Same H H1 → H D = none → H1 D = some (.lst acc) → Y i H1 x H2 → Same H1 H2 → (∀ y H4, Same H2 H4 → R i y (hide D H4) → N y H4) → g x (wipe σ vs) H2 fun σ2 H3 => wipe σ2 vs = wipe σ vs ∧ te σ2 H3 N)
    (k : ∀ D H' ys, H D = none → Same H H' → H' D = some (.lst ys) → ys.length = n → (∀ (i : Nat) y, ys[i]? = some y → R i y (hide D H')) → Q (.ref D) H') : CompOk J g tYes te vs σ H Q := by
  intro D hD
  refine lc_it w (fun i H' => ∃ ys, H' D = some (.lst ys) ∧ ys.length = i ∧ Same H H' ∧ ∀ (j : Nat) y, ys[j]? = some y → R j y (hide D H')) ?_ (fun i H' _ ⟨ys, _, _, sm, _⟩ => hG H' sm) ?_ ?_
  · exact ⟨[], upd_same, rfl, Same.new hD, fun j y e => by simp at e⟩
  · rintro i x H1 H2 hi ⟨ys, e1, e2, sm, hr⟩ hy
    have s12 := hY i x H1 H2 hi hy
    refine hs i x H1 H2 D ys _ hi sm hD e1 hy s12 fun y H4 s24 r4 => ?_
    have e4 : H4 D = some (.lst ys) := s24 _ _ (s12 _ _ e1)
    refine ⟨ys, e4, by omega, ys ++ [y], upd_same, by rw [List.length_append, e2]; rfl, Same.mut ((sm.trans s12).trans s24) hD, fun j z ez => ?_⟩
    rw [hide_upd]
    by_cases hj : j < ys.length
    · rw [List.getElem?_append_left hj] at ez
      exact hR _ _ _ _ (hide_mono (s12.trans s24)) (hr j z ez)
    · have hlen := (List.getElem?_eq_some_iff.mp ez).1
      rw [List.length_append] at hlen
      have ej : j = ys.length := by
        have : j < ys.length + 1 := hlen
        omega
      subst ej
      rw [List.getElem?_append_right (Nat.le_refl _), Nat.sub_self] at ez
      have ey : y = z := Option.some.inj ez
      subst ey
      rw [e2]
      exact r4
  · rintro H' ⟨ys, e1, e2, sm, hr⟩
    exact k D H' ys hD sm e1 e2 hr
/-- over a list or a tuple -/
theorem l_compS {b : Bool} {a : Addr} {j : Nat} (xs : List V) (hx : Sq b K H a xs) (hz : xs.length < sizeLine) (R : Nat → V → Hp → Prop) (hR : ∀ i y H1 H2, Same H1 H2 → R i y H1 → R i y H2)
    (hw : ∀ x : V, wipe ((wipe σ vs).set j (some x)) vs = wipe σ vs)
    (hs : ∀ (i : Nat) x H1 D acc (N : VK), i < xs.length → xs[i]? = some x → Same H H1 → H D = none → H1 D = some (.lst acc) → (∀ y H4, Same H1 H4 → R i y (hide D H4) → N y H4) → te ((wipe σ vs).set j (some x)) H1 N)
    (k : ∀ D H' ys, H D = none → Same H H' → H' D = some (.lst ys) → ys.length = xs.length → (∀ (i : Nat) y, ys[i]? = some y → R i y (hide D H')) → Q (.ref D) H') :
    ∃ a', V.ref a = .ref a' ∧ ((∃ xs, SqL K H a' xs) ∧ CompOk (Itl K a') (gName j) tYes te vs σ H Q ∨ (∃ xs, SqT K H a' xs) ∧ CompOk (Itt K a') (gName j) tYes te vs σ H Q) := by
  refine ⟨a, rfl, ?_⟩
  cases b with
  | true =>
    refine .inl ⟨⟨xs, hx⟩, l_comp (walk_list (xs := xs)) hz R hR (fun H' sm => sm.sq (b := true) hx) (fun i x H1 H2 hi hy => by rw [hy.1]; exact Same.refl _) (fun i x H1 H2 D acc N hi sm hD e1 hy s12 hN => ?_) k⟩
    obtain ⟨e, ex⟩ := hy
    subst e
    exact ⟨hw x, hs i x _ D acc N hi ex sm hD e1 hN⟩
  | false =>
    refine .inr ⟨⟨xs, hx⟩, l_comp (walk_tup (xs := xs)) hz R hR (fun H' sm => sm.sq (b := false) hx) (fun i x H1 H2 hi hy => by rw [hy.1]; exact Same.refl _) (fun i x H1 H2 D acc N hi sm hD e1 hy s12 hN => ?_) k⟩
    obtain ⟨e, ex⟩ := hy
    subst e
    exact ⟨hw x, hs i x _ D acc N hi ex sm hD e1 hN⟩
/-- over range(n) -/
theorem l_compR {n : Int} {j : Nat} (h1 : -(2 ^ 62) ≤ n) (h2 : n < 16000000) (R : Nat → V → Hp → Prop) (hR : ∀ i y H1 H2, Same H1 H2 → R i y H1 → R i y H2)
    (hw : ∀ x : V, wipe ((wipe σ vs).set j (some x)) vs = wipe σ vs)
    (hs : ∀ (i : Nat) H1 D acc (N : VK), (i : Int) < n → Same H H1 → H D = none → H1 D = some (.lst acc) → (∀ y H4, Same H1 H4 → R i y (hide D H4) → N y H4) → te ((wipe σ vs).set j (some (.int (i : Int)))) H1 N)
    (k : ∀ D H' ys, H D = none → Same H H' → H' D = some (.lst ys) → ys.length = n.toNat → (∀ (i : Nat) y, ys[i]? = some y → R i y (hide D H')) → Q (.ref D) H') :
    ∃ j' : Int, [V.int n] = [.int j'] ∧ -(2 ^ 62) ≤ j' ∧ j' < 2 ^ 62 ∧ CompOk (Itr 0 j'.toNat) (gName j) tYes te vs σ H Q := by
  refine ⟨n, rfl, h1, by omega, l_comp (walk_range (lo := 0) (n := n.toNat)) (by rw [sizeLine_eq]; omega) R hR (fun _ _ => trivial) (fun i x H1 H2 hi hy => by rw [hy.1]; exact Same.refl _) (fun i x H1 H2 D acc N hi sm hD e1 hy s12 hN => ?_) k⟩
  obtain ⟨e, ex⟩ := hy
  subst e ex
  show wipe ((wipe σ vs).set j (some (.int (0 + (i : Int))))) vs = wipe σ vs ∧ te ((wipe σ vs).set j (some (.int (0 + (i : Int))))) _ N
  rw [Int.zero_add]
  exact ⟨hw _, hs i _ D acc N (by omega) sm hD e1 hN⟩
/-- over zip of two -/
theorem l_compZ {b1 b2 : Bool} {a b : Addr} {i1 i2 nn : Nat} (xs ys : List V) (hn : xs.length = ys.length) (hx : Sq b1 K H a xs) (hy : Sq b2 K H b ys) (hz : xs.length < sizeLine) (R : Nat → V → Hp → Prop) (hR : ∀ i y H1 H2, Same H1 H2 → R i y H1 → R i y H2) (hnn : nn = 2)
    (hw : ∀ x y : V, wipe (((wipe σ vs).set i1 (some x)).set i2 (some y)) vs = wipe σ vs)
    (hs : ∀ (i : Nat) x y H1 D acc (N : VK), i < xs.length → xs[i]? = some x → ys[i]? = some y → Same H H1 → H D = none → H1 D = some (.lst acc) → (∀ y H4, Same H1 H4 → R i y (hide D H4) → N y H4) → te (((wipe σ vs).set i1 (some x)).set i2 (some y)) H1 N)
    (k : ∀ D H' ys, H D = none → Same H H' → H' D = some (.lst ys) → ys.length = xs.length → (∀ (i : Nat) y, ys[i]? = some y → R i y (hide D H')) → Q (.ref D) H') :
    ∃ a' b', [V.ref a, V.ref b] = [.ref a', .ref b'] ∧ ∃ b1 b2 xs ys, Sq b1 K H a' xs ∧ Sq b2 K H b' ys ∧ CompOk (ItzS b1 b2 K a' b') (gTup K nn (gCons (gName i1) (gCons (gName i2) gNil))) tYes te vs σ H Q := by
  subst hnn
  refine ⟨a, b, rfl, b1, b2, xs, ys, hx, hy, l_comp (walk_zipS hn) hz R hR (fun H' sm => ⟨sm.sq hx, sm.sq hy⟩) (fun i x H1 H2 hi hy => ?_) (fun i x H1 H2 D acc N hi sm hD e1 hy s12 hN => ?_) k⟩
  · obtain ⟨T, u, v, rfl, hT, e, hu, hv⟩ := hy
    subst e
    exact Same.new hT
  · obtain ⟨T, u, v, rfl, hT, e, hu, hv⟩ := hy
    subst e
    exact w_pair (Sq.tup upd_same) ⟨hw u v, hs i u v _ D acc N hi hu hv (sm.trans s12) hD (s12 _ _ e1) hN⟩
end
end L2

namespace L2
open PySem PySem.Spec PyProof.Rows
/-! ### data over the heap: relations that new objects leave as they are -/
abbrev Rep (α : Type) := Hp → V → α → Prop
def RMono {α : Type} (R : Rep α) : Prop := ∀ H H' v x, Same H H' → R H v x → R H' v x
/-- no list in it: what stands at a list may be left out -/
def RTup {α : Type} (R : Rep α) : Prop := ∀ H D v x, NTup (H D) → R H v x → R (hide D H) v x
def RLst {α : Type} (R : Rep α) : Prop := ∀ H D v x ys, H D = some (.lst ys) → R H v x → R (hide D H) v x
theorem RTup.lst {α : Type} {R : Rep α} (h : RTup R) : RLst R := fun H D v x _ e r => h H D v x (NTup.lst e) r
def RInt : Rep Int := fun _ v i => v = .int i
/-- numbers in a list (true) or a tuple (false) -/
def RVec (b : Bool) (K : PySem.W.Frag) : Rep (List Int) := fun H v ns => ∃ a, v = .ref a ∧ Sq b K H a (ns.map V.int)
def RSeq (b : Bool) (K : PySem.W.Frag) {α : Type} (R : Rep α) : Rep (List α) := fun H v xs => ∃ a vs, v = .ref a ∧ Sq b K H a vs ∧ vs.length = xs.length ∧ ∀ (i : Nat) y x, vs[i]? = some y → xs[i]? = some x → R H y x
def RPair (K : PySem.W.Frag) {α β : Type} (R : Rep α) (S : Rep β) : Rep (α × β) := fun H v p => ∃ a x y, v = .ref a ∧ Sq false K H a [x, y] ∧ R H x p.1 ∧ S H y p.2
section
variable {K : PySem.W.Frag} {α β : Type} {R : Rep α} {S : Rep β} {b : Bool}
theorem RInt.mono : RMono RInt := fun _ _ _ _ _ h => h
theorem RInt.tup : RTup RInt := fun _ _ _ _ _ h => h
theorem RVec.mono : RMono (RVec b K) := fun _ _ _ _ s ⟨a, e, h⟩ => ⟨a, e, s.sq h⟩
theorem RVec.tup : RTup (RVec false K) := fun _ _ _ _ hD ⟨a, e, h⟩ => ⟨a, e, sq_hide hD h⟩
theorem RSeq.mono (hR : RMono R) : RMono (RSeq b K R) := fun _ _ _ _ s ⟨a, vs, e, h, hl, q⟩ => ⟨a, vs, e, s.sq h, hl, fun i y x h1 h2 => hR _ _ _ _ s (q i y x h1 h2)⟩
theorem RSeq.tup (hR : RTup R) : RTup (RSeq false K R) := fun _ _ _ _ hD ⟨a, vs, e, h, hl, q⟩ => ⟨a, vs, e, sq_hide hD h, hl, fun i y x h1 h2 => hR _ _ _ _ hD (q i y x h1 h2)⟩
theorem RPair.mono (hR : RMono R) (hS : RMono S) : RMono (RPair K R S) := fun _ _ _ _ s ⟨a, x, y, e, h, h1, h2⟩ => ⟨a, x, y, e, s.sq h, hR _ _ _ _ s h1, hS _ _ _ _ s h2⟩
theorem RPair.tup (hR : RTup R) (hS : RTup S) : RTup (RPair K R S) := fun _ _ _ _ hD ⟨a, x, y, e, h, h1, h2⟩ => ⟨a, x, y, e, sq_hide hD h, hR _ _ _ _ hD h1, hS _ _ _ _ hD h2⟩
theorem RSeq.get {H : Hp} {vs : List V} {xs : List α} (hl : vs.length = xs.length) (q : ∀ (i : Nat) y x, vs[i]? = some y → xs[i]? = some x → R H y x) {i : Nat} {x : α} (h : xs[i]? = some x) : ∃ y, vs[i]? = some y ∧ R H y x := by
  have hi := (List.getElem?_eq_some_iff.mp h).1
  exact ⟨vs[i], List.getElem?_eq_getElem (by omega), q i _ x (List.getElem?_eq_getElem (by omega)) h⟩
theorem vec_at {ns : List Int} {i : Nat} {y : V} (h : (ns.map V.int)[i]? = some y) : y = .int (nth ns (i : Nat)) ∧ i < ns.length := by
  have hi := (List.getElem?_eq_some_iff.mp h).1
  rw [List.length_map] at hi
  rw [List.getElem?_map, List.getElem?_eq_getElem hi] at h
  refine ⟨?_, hi⟩
  rw [← Option.some.inj h, nth_nat, List.getD_eq_getElem?_getD, List.getElem?_eq_getElem hi]
  rfl
theorem vec_get {ns : List Int} {i : Nat} (hi : i < ns.length) : (ns.map V.int)[i]? = some (.int (nth ns (i : Nat))) := by
  rw [List.getElem?_map, List.getElem?_eq_getElem hi, nth_nat, List.getD_eq_getElem?_getD, List.getElem?_eq_getElem hi]
  rfl
theorem vec_of {ys : List V} {ns : List Int} (hl : ys.length = ns.length) (h : ∀ (i : Nat) y, ys[i]? = some y → y = .int (nth ns (i : Nat))) : ys = ns.map V.int := by
  refine List.ext_getElem? fun i => ?_
  by_cases hi : i < ys.length
  · rw [vec_get (by omega), List.getElem?_eq_getElem hi]
    exact congrArg some (h i _ (List.getElem?_eq_getElem hi))
  · rw [List.getElem?_eq_none (by omega), List.getElem?_eq_none (by rw [List.length_map]; omega)]
end
section
variable {K : PySem.W.Frag} {σ : St} {H : Hp} {te : TE} {vs : List Nat} {Q : VK} {b b1 b2 : Bool} {a a1 a2 : Addr} {j : Nat}
/-- a comprehension that gives numbers -/
theorem c_ints (xs : List V) (hx : Sq b K H a xs) (ms : List Int) (hl : ms.length = xs.length) (hz : xs.length < sizeLine) (hw : ∀ x : V, wipe ((wipe σ vs).set j (some x)) vs = wipe σ vs)
    (hs : ∀ (i : Nat) x H1 (N : VK), i < xs.length → xs[i]? = some x → Same H H1 → (∀ H4, Same H1 H4 → N (.int (nth ms (i : Nat))) H4) → te ((wipe σ vs).set j (some x)) H1 N)
    (k : ∀ D H', H D = none → Same H H' → H' D = some (.lst (ms.map V.int)) → Q (.ref D) H') :
    ∃ a', V.ref a = .ref a' ∧ ((∃ xs, SqL K H a' xs) ∧ CompOk (Itl K a') (gName j) tYes te vs σ H Q ∨ (∃ xs, SqT K H a' xs) ∧ CompOk (Itt K a') (gName j) tYes te vs σ H Q) :=
  l_compS xs hx hz (fun i y _ => y = .int (nth ms (i : Nat))) (fun _ _ _ _ _ h => h) hw (fun i x H1 D acc N hi hxi sm hD e1 hN => hs i x H1 N hi hxi sm fun H4 s4 => hN _ H4 s4 rfl)
    (fun D H' ys hD sm e hly hr => k D H' hD sm (by rw [e, vec_of (by omega) hr]))
theorem c_intsR {n : Int} (h1 : -(2 ^ 62) ≤ n) (h2 : n < 16000000) (ms : List Int) (hl : ms.length = n.toNat) (hw : ∀ x : V, wipe ((wipe σ vs).set j (some x)) vs = wipe σ vs)
    (hs : ∀ (i : Nat) H1 (N : VK), (i : Int) < n → Same H H1 → (∀ H4, Same H1 H4 → N (.int (nth ms (i : Nat))) H4) → te ((wipe σ vs).set j (some (.int (i : Int)))) H1 N)
    (k : ∀ D H', H D = none → Same H H' → H' D = some (.lst (ms.map V.int)) → Q (.ref D) H') :
    ∃ j' : Int, [V.int n] = [.int j'] ∧ -(2 ^ 62) ≤ j' ∧ j' < 2 ^ 62 ∧ CompOk (Itr 0 j'.toNat) (gName j) tYes te vs σ H Q :=
  l_compR h1 h2 (fun i y _ => y = .int (nth ms (i : Nat))) (fun _ _ _ _ _ h => h) hw (fun i H1 D acc N hi sm hD e1 hN => hs i H1 N hi sm fun H4 s4 => hN _ H4 s4 rfl)
    (fun D H' ys hD sm e hly hr => k D H' hD sm (by rw [e, vec_of (by omega) hr]))
theorem c_intsZ {i1 i2 nn : Nat} (xs ys : List V) (hn : xs.length = ys.length) (hx : Sq b1 K H a1 xs) (hy : Sq b2 K H a2 ys) (ms : List Int) (hl : ms.length = xs.length) (hz : xs.length < sizeLine) (hnn : nn = 2)
    (hw : ∀ x y : V, wipe (((wipe σ vs).set i1 (some x)).set i2 (some y)) vs = wipe σ vs)
    (hs : ∀ (i : Nat) x y H1 (N : VK), i < xs.length → xs[i]? = some x → ys[i]? = some y → Same H H1 → (∀ H4, Same H1 H4 → N (.int (nth ms (i : Nat))) H4) → te (((wipe σ vs).set i1 (some x)).set i2 (some y)) H1 N)
    (k : ∀ D H', H D = none → Same H H' → H' D = some (.lst (ms.map V.int)) → Q (.ref D) H') :
    ∃ a' b', [V.ref a1, V.ref a2] = [.ref a', .ref b'] ∧ ∃ b1 b2 xs ys, Sq b1 K H a' xs ∧ Sq b2 K H b' ys ∧ CompOk (ItzS b1 b2 K a' b') (gTup K nn (gCons (gName i1) (gCons (gName i2) gNil))) tYes te vs σ H Q :=
  l_compZ xs ys hn hx hy hz (fun i y _ => y = .int (nth ms (i : Nat))) (fun _ _ _ _ _ h => h) hnn hw (fun i x y H1 D acc N hi hxi hyi sm hD e1 hN => hs i x y H1 N hi hxi hyi sm fun H4 s4 => hN _ H4 s4 rfl)
    (fun D H' zs hD sm e hly hr => k D H' hD sm (by rw [e, vec_of (by omega) hr]))
/-- a comprehension that gives data without the new list in them -/
theorem c_repL {α : Type} {R : Rep α} (hm : RMono R) (ht : RLst R) (xs : List V) (hx : Sq b K H a xs) (ds : List α) (hl : ds.length = xs.length) (hz : xs.length < sizeLine) (hw : ∀ x : V, wipe ((wipe σ vs).set j (some x)) vs = wipe σ vs)
    (hs : ∀ (i : Nat) x d H1 (N : VK), i < xs.length → xs[i]? = some x → ds[i]? = some d → Same H H1 → (∀ y H4, Same H1 H4 → R H4 y d → N y H4) → te ((wipe σ vs).set j (some x)) H1 N)
    (k : ∀ D H' ys, H D = none → Same H H' → H' D = some (.lst ys) → ys.length = ds.length → (∀ (i : Nat) y d, ys[i]? = some y → ds[i]? = some d → R H' y d) → Q (.ref D) H') :
    ∃ a', V.ref a = .ref a' ∧ ((∃ xs, SqL K H a' xs) ∧ CompOk (Itl K a') (gName j) tYes te vs σ H Q ∨ (∃ xs, SqT K H a' xs) ∧ CompOk (Itt K a') (gName j) tYes te vs σ H Q) :=
  l_compS xs hx hz (fun i y H' => ∀ d, ds[i]? = some d → R H' y d) (fun _ _ _ _ s h d hd => hm _ _ _ _ s (h d hd)) hw
    (fun i x H1 D acc N hi hxi sm hD e1 hN => by
      obtain ⟨d, hd⟩ : ∃ d, ds[i]? = some d := ⟨ds[i]'(by omega), List.getElem?_eq_getElem (by omega)⟩
      refine hs i x d H1 N hi hxi hd sm fun y H4 s4 r4 => hN y H4 s4 fun d' hd' => ?_
      rw [hd] at hd'
      cases hd'
      exact ht _ D _ _ _ (s4 _ _ e1) r4)
    (fun D H' ys hD sm e hly hr => k D H' ys hD sm e (by omega) fun i y d h1 h2 => hm _ _ _ _ (hide_same D H') (hr i y h1 d h2))
/-- a comprehension that gives data without lists -/
theorem c_rep {α : Type} {R : Rep α} (hm : RMono R) (ht : RTup R) (xs : List V) (hx : Sq b K H a xs) (ds : List α) (hl : ds.length = xs.length) (hz : xs.length < sizeLine) (hw : ∀ x : V, wipe ((wipe σ vs).set j (some x)) vs = wipe σ vs)
    (hs : ∀ (i : Nat) x d H1 (N : VK), i < xs.length → xs[i]? = some x → ds[i]? = some d → Same H H1 → (∀ y H4, Same H1 H4 → R H4 y d → N y H4) → te ((wipe σ vs).set j (some x)) H1 N)
    (k : ∀ D H' ys, H D = none → Same H H' → H' D = some (.lst ys) → ys.length = ds.length → (∀ (i : Nat) y d, ys[i]? = some y → ds[i]? = some d → R H' y d) → Q (.ref D) H') :
    ∃ a', V.ref a = .ref a' ∧ ((∃ xs, SqL K H a' xs) ∧ CompOk (Itl K a') (gName j) tYes te vs σ H Q ∨ (∃ xs, SqT K H a' xs) ∧ CompOk (Itt K a') (gName j) tYes te vs σ H Q) :=
  c_repL hm ht.lst xs hx ds hl hz hw hs k
theorem c_repR {α : Type} {R : Rep α} {n : Int} (hm : RMono R) (ht : RTup R) (h1 : -(2 ^ 62) ≤ n) (h2 : n < 16000000) (ds : List α) (hl : ds.length = n.toNat) (hw : ∀ x : V, wipe ((wipe σ vs).set j (some x)) vs = wipe σ vs)
    (hs : ∀ (i : Nat) d H1 (N : VK), (i : Int) < n → ds[i]? = some d → Same H H1 → (∀ y H4, Same H1 H4 → R H4 y d → N y H4) → te ((wipe σ vs).set j (some (.int (i : Int)))) H1 N)
    (k : ∀ D H' ys, H D = none → Same H H' → H' D = some (.lst ys) → ys.length = ds.length → (∀ (i : Nat) y d, ys[i]? = some y → ds[i]? = some d → R H' y d) → Q (.ref D) H') :
    ∃ j' : Int, [V.int n] = [.int j'] ∧ -(2 ^ 62) ≤ j' ∧ j' < 2 ^ 62 ∧ CompOk (Itr 0 j'.toNat) (gName j) tYes te vs σ H Q :=
  l_compR h1 h2 (fun i y H' => ∀ d, ds[i]? = some d → R H' y d) (fun _ _ _ _ s h d hd => hm _ _ _ _ s (h d hd)) hw
    (fun i H1 D acc N hi sm hD e1 hN => by
      obtain ⟨d, hd⟩ : ∃ d, ds[i]? = some d := ⟨ds[i]'(by omega), List.getElem?_eq_getElem (by omega)⟩
      refine hs i d H1 N hi hd sm fun y H4 s4 r4 => hN y H4 s4 fun d' hd' => ?_
      rw [hd] at hd'
      cases hd'
      exact ht _ D _ _ (NTup.lst (s4 _ _ e1)) r4)
    (fun D H' ys hD sm e hly hr => k D H' ys hD sm e (by omega) fun i y d h1 h2 => hm _ _ _ _ (hide_same D H') (hr i y h1 d h2))
/-- the same data twice -/
theorem RInt.sm {n : Nat} {x y : V} {i : Int} (h1 : RInt H x i) (h2 : RInt H y i) : Sm K H n x y := by
  cases h1
  cases h2
  exact Sm.int
theorem RSeq.sm {α : Type} {R S : Rep α} {n : Nat} {x y : V} {ds : List α} (hz : ds.length ≤ 100000) (hRS : ∀ x y d, d ∈ ds → R H x d → S H y d → Sm K H n x y) (h1 : RSeq false K R H x ds) (h2 : RSeq b K S H y ds) : Sm K H (n + 1) x y := by
  obtain ⟨a, xs, rfl, hx, hxl, hxr⟩ := h1
  obtain ⟨a', ys, rfl, hy, hyl, hyr⟩ := h2
  refine .inr ⟨a, a', b, xs, ys, rfl, rfl, hx, hy, by omega, by omega, fun i x' y' e1 e2 => ?_⟩
  have hi := (List.getElem?_eq_some_iff.mp e1).1
  have hd : ds[i]? = some (ds[i]'(by omega)) := List.getElem?_eq_getElem (by omega)
  exact hRS _ _ _ (List.mem_of_getElem? hd) (hxr i _ _ e1 hd) (hyr i _ _ e2 hd)
theorem RVec.sm {n : Nat} {x y : V} {ns : List Int} (hz : ns.length ≤ 100000) (h1 : RVec false K H x ns) (h2 : RVec b K H y ns) : Sm K H (n + 1) x y := by
  obtain ⟨a, rfl, hx⟩ := h1
  obtain ⟨a', rfl, hy⟩ := h2
  refine .inr ⟨a, a', b, _, _, rfl, rfl, hx, hy, rfl, by rw [List.length_map]; exact hz, fun i x' y' e1 e2 => ?_⟩
  rw [(vec_at e1).1, (vec_at e2).1]
  exact Sm.int
theorem RPair.sm {α β : Type} {R R' : Rep α} {S S' : Rep β} {n : Nat} {x y : V} {p : α × β} (hR : ∀ x y, R H x p.1 → R' H y p.1 → Sm K H n x y) (hS : ∀ x y, S H x p.2 → S' H y p.2 → Sm K H n x y) (h1 : RPair K R S H x p) (h2 : RPair K R' S' H y p) : Sm K H (n + 1) x y := by
  obtain ⟨a, x1, x2, rfl, hx, r1, r2⟩ := h1
  obtain ⟨a', y1, y2, rfl, hy, q1, q2⟩ := h2
  refine .inr ⟨a, a', false, _, _, rfl, rfl, hx, hy, rfl, by show 2 ≤ 100000; omega, fun i x' y' e1 e2 => ?_⟩
  match i, e1, e2 with
  | 0, e1, e2 => cases e1; cases e2; exact hR _ _ r1 q1
  | 1, e1, e2 => cases e1; cases e2; exact hS _ _ r2 q2
  | i + 2, e1, _ => simp at e1
end
/-! ### fields of objects -/
section
variable {K : PySem.W.Frag} {σ : St} {H : Hp} {v : V} {Q : VK} {ta : TE} {D : Ends}
theorem lk_here {f : Str} {v : V} {r : List (Str × V)} : List.lookup f ((f, v) :: r) = some v := by simp [List.lookup]
theorem lk_next {f g : Str} {v : V} {r : List (Str × V)} {o : Option V} (h : (f == g) = false) (q : List.lookup f r = o) : List.lookup f ((g, v) :: r) = o := by
  rw [List.lookup, h]; exact q
theorem pf_here {f : Str} {v u : V} {r : List (Str × V)} : putF f v ((f, u) :: r) = (f, v) :: r := by
  show (if f = f then _ else _) = _
  rw [if_pos rfl]
theorem pf_next {f g : Str} {v u : V} {r r' : List (Str × V)} (h : (g == f) = false) (q : putF f v r = r') : putF f v ((g, u) :: r) = (g, u) :: r' := by
  have hne : ¬ g = f := fun e => by rw [e] at h; simp at h
  show (if g = f then _ else (g, u) :: putF f v r) = _
  rw [if_neg hne, q]
theorem pf_nil {f : Str} {v : V} : putF f v [] = [(f, v)] := rfl
theorem w_fld {f : Str} (q : ta σ H fun x H1 => ∃ a C dx fs v, x = .ref a ∧ H1 a = some (.ins C dx fs) ∧ Cls K C ∧ NoAttr K C f ∧ fs.lookup f = some v ∧ Q v H1) : tFld K ta f σ H Q := q
theorem w_fldAt {f : Str} {p C dx : Addr} {fs : List (Str × V)} (h : H p = some (.ins C dx fs)) (c : Cls K C) (n : NoAttr K C f) (l : fs.lookup f = some v) {F : V → Prop} (q : F v) :
    ∃ a C dx fs v, V.ref p = .ref a ∧ H a = some (.ins C dx fs) ∧ Cls K C ∧ NoAttr K C f ∧ fs.lookup f = some v ∧ F v := ⟨p, C, dx, fs, v, rfl, h, c, n, l, q⟩
theorem w_sfld {f : Str} {tv : TE} {nx b' c' : St → Hp → Prop} {rt : VK} (q : tv σ H fun y H1 => ta σ H1 fun x H2 => ∃ a C dx fs, x = .ref a ∧ H2 a = some (.ins C dx fs) ∧ Cls K C ∧ NoAttr K C f ∧ fs.length < 1000 ∧ nx σ (upd H2 a (.ins C dx (putF f y fs)))) : sFld K ta tv f ⟨nx, rt, b', c'⟩ σ H := q
theorem w_sfldAt {f : Str} {p C dx : Addr} {fs fs' : List (Str × V)} {y : V} (h : H p = some (.ins C dx fs)) (c : Cls K C) (n : NoAttr K C f) (hl : fs.length < 1000) (e : putF f y fs = fs') {F : Hp → Prop} (q : F (upd H p (.ins C dx fs'))) :
    ∃ a C dx fs, V.ref p = .ref a ∧ H a = some (.ins C dx fs) ∧ Cls K C ∧ NoAttr K C f ∧ fs.length < 1000 ∧ F (upd H a (.ins C dx (putF f y fs))) := ⟨p, C, dx, fs, rfl, h, c, n, hl, by rw [e]; exact q⟩
theorem w_meth {C : Addr} {m : Str} {sp : Sp} {dvs : List V} {E : XK} {t : TA} (q : ta σ H fun x H1 => ∃ a dx fs, x = .ref a ∧ H1 a = some (.ins C dx fs) ∧ fs.lookup m = none ∧ t σ H1 fun vs H2 => sp (x :: (vs ++ dvs)) H2 Q E) : tMeth C m sp dvs E ta t σ H Q := q
theorem w_methAt {m : Str} {p C dx : Addr} {fs : List (Str × V)} {B : Prop} (h : H p = some (.ins C dx fs)) (l : fs.lookup m = none) (q : B) : ∃ a dx fs, V.ref p = .ref a ∧ H a = some (.ins C dx fs) ∧ fs.lookup m = none ∧ B := ⟨p, dx, fs, rfl, h, l, q⟩
theorem w_make {C : Addr} {sp : Sp} {dvs : List V} {E : XK} {t : TA} (q : t σ H fun vs H1 => ∀ x dx, H1 x = none → H1 dx = none → dx ≠ x → sp (.ref x :: (vs ++ dvs)) (upd (upd H1 dx (.own x)) x (.ins C dx [])) (fun v H2 => v = .non ∧ Q (.ref x) H2) E) : tMake C sp dvs E t σ H Q := q
theorem w_notInS {neg : Bool} {x : V} {p : Addr} {xs : List V} {b : Bool} (h : Sq b K H p xs) (hx : flatV x = true) (ha : xs.all flatV = true) (q : Q (.bl (if neg then !inV x xs else inV x xs)) H) : rIn K neg x (.ref p) H Q := ⟨p, xs, rfl, h.or, hx, ha, q⟩
theorem w_chain {r r' : R2} {tb tc : TE} (q : ta σ H fun x H1 => tb σ H1 fun y H2 => r x y H2 fun z H3 => ∃ k, z = .bl k ∧ if k = true then tc σ H3 fun w H4 => r' y w H4 Q else Q (.bl false) H3) : tChain r r' ta tb tc σ H Q := q
end
end L2

namespace L2
open PySem PySem.Spec PyProof.Rows
theorem RTup.upd {α : Type} {R : Rep α} (ht : RTup R) (hm : RMono R) {H : Hp} {D : Addr} {o : HO} {v : V} {x : α} (hD : NTup (H D)) (h : R H v x) : R (L2.upd H D o) v x := by
  have h1 := ht _ _ _ _ hD h
  rw [← hide_upd D H o] at h1
  exact hm _ _ _ _ (hide_same D _) h1
/-- a list that a loop fills: at D, its items relate to the data without the list itself -/
structure Filled {α : Type} (R : Rep α) (H0 H : Hp) (D : Addr) (ds : List α) : Prop where
  new : H0 D = none
  same : Same H0 H
  at_ : ∃ ys, H D = some (.lst ys) ∧ ys.length = ds.length ∧ ∀ (i : Nat) y d, ys[i]? = some y → ds[i]? = some d → R (hide D H) y d
theorem Filled.nil {α : Type} {R : Rep α} {H : Hp} {D : Addr} (h : H D = none) : Filled R H (L2.upd H D (.lst [])) D [] :=
  ⟨h, Same.new h, [], upd_same, rfl, fun i y d e => by simp at e⟩
theorem Filled.mono {α : Type} {R : Rep α} (hm : RMono R) {H0 H H' : Hp} {D : Addr} {ds : List α} (f : Filled R H0 H D ds) (s : Same H H') : Filled R H0 H' D ds := by
  obtain ⟨ys, e, hl, hr⟩ := f.at_
  exact ⟨f.new, f.same.trans s, ys, s _ _ e, hl, fun i y d h1 h2 => hm _ _ _ _ (hide_mono s) (hr i y d h1 h2)⟩
theorem Filled.push {α : Type} {R : Rep α} {H0 H : Hp} {D : Addr} {ds : List α} {d : α} {y : V} (f : Filled R H0 H D ds) (hy : R (hide D H) y d) : ∃ ys, H D = some (.lst ys) ∧ ys.length = ds.length ∧ Filled R H0 (L2.upd H D (.lst (ys ++ [y]))) D (ds ++ [d]) := by
  obtain ⟨ys, e, hl, hr⟩ := f.at_
  refine ⟨ys, e, hl, f.new, Same.mut f.same f.new, ys ++ [y], upd_same, by simp [hl], fun i y' d' h1 h2 => ?_⟩
  rw [hide_upd]
  by_cases hi : i < ys.length
  · rw [List.getElem?_append_left hi] at h1
    rw [List.getElem?_append_left (by omega)] at h2
    exact hr i y' d' h1 h2
  · have h3 := (List.getElem?_eq_some_iff.mp h1).1
    rw [List.length_append] at h3
    have ei : i = ys.length := by
      have : i < ys.length + 1 := h3
      omega
    subst ei
    rw [List.getElem?_append_right (Nat.le_refl _), Nat.sub_self] at h1
    rw [hl, List.getElem?_append_right (Nat.le_refl _), Nat.sub_self] at h2
    cases h1
    cases h2
    exact hy
theorem Filled.seq {α : Type} {R : Rep α} (hm : RMono R) {K : PySem.W.Frag} {H0 H : Hp} {D : Addr} {ds : List α} (f : Filled R H0 H D ds) : RSeq true K R H (.ref D) ds := by
  obtain ⟨ys, e, hl, hr⟩ := f.at_
  exact ⟨D, ys, rfl, Sq.lst e, hl, fun i y d h1 h2 => hm _ _ _ _ (hide_same D H) (hr i y d h1 h2)⟩
section
variable {K : PySem.W.Frag} {σ : St} {H : Hp} {N : St → Hp → Prop}
theorem w_pairG {i : Nat} {g : TG} {a : Addr} {x y : V} (h : Sq false K H a [x, y]) (q : g y (σ.set i (some x)) H N) : gTup K 2 (gCons (gName i) (gCons g gNil)) (.ref a) σ H N :=
  ⟨a, [x, y], rfl, h, rfl, x, [y], rfl, y, [], rfl, (by
    have : (fun σ' H' => gNil [] σ' H' N) = N := by
      funext σ' H'
      exact propext ⟨fun h => h.2, fun h => ⟨rfl, h⟩⟩
    rw [this]; exact q)⟩
theorem w_trip {i j k : Nat} {a : Addr} {x y z : V} (h : Sq false K H a [x, y, z]) (q : N (((σ.set i (some x)).set j (some y)).set k (some z)) H) : gTup K 3 (gCons (gName i) (gCons (gName j) (gCons (gName k) gNil))) (.ref a) σ H N :=
  ⟨a, [x, y, z], rfl, h, rfl, x, [y, z], rfl, y, [z], rfl, z, [], rfl, rfl, q⟩
theorem w_five {i1 i2 i3 i4 i5 : Nat} {a : Addr} {x1 x2 x3 x4 x5 : V} (h : Sq false K H a [x1, x2, x3, x4, x5]) (q : N (((((σ.set i1 (some x1)).set i2 (some x2)).set i3 (some x3)).set i4 (some x4)).set i5 (some x5)) H) :
    gTup K 5 (gCons (gName i1) (gCons (gName i2) (gCons (gName i3) (gCons (gName i4) (gCons (gName i5) gNil))))) (.ref a) σ H N :=
  ⟨a, [x1, x2, x3, x4, x5], rfl, h, rfl, x1, [x2, x3, x4, x5], rfl, x2, [x3, x4, x5], rfl, x3, [x4, x5], rfl, x4, [x5], rfl, x5, [], rfl, rfl, q⟩
theorem RSeq.five {α : Type} {R : Rep α} {v : V} {d0 d1 d2 d3 d4 : α} (h : RSeq false K R H v [d0, d1, d2, d3, d4]) : ∃ a x0 x1 x2 x3 x4, v = .ref a ∧ Sq false K H a [x0, x1, x2, x3, x4] ∧ R H x0 d0 ∧ R H x1 d1 ∧ R H x2 d2 ∧ R H x3 d3 ∧ R H x4 d4 := by
  obtain ⟨a, vs, e, hs, hl, hr⟩ := h
  match vs, hl with
  | [x0, x1, x2, x3, x4], _ => exact ⟨a, x0, x1, x2, x3, x4, e, hs, hr 0 _ _ rfl rfl, hr 1 _ _ rfl rfl, hr 2 _ _ rfl rfl, hr 3 _ _ rfl rfl, hr 4 _ _ rfl rfl⟩
theorem RSeq.lt {α : Type} {R : Rep α} {b : Bool} {v : V} {ds : List α} (h : RSeq b K R H v ds) : ∃ a vs, v = .ref a ∧ Sq b K H a vs ∧ vs.length = ds.length ∧ ∀ (i : Nat) y x, vs[i]? = some y → ds[i]? = some x → R H y x := h
/-- cuts of lists -/
theorem cutV_fromto {xs : List V} {a b : Nat} (h : a ≤ b) (hb : b ≤ xs.length) : cutV xs (some (a : Int)) (some (b : Int)) = (xs.drop a).take (b - a) := by
  unfold cutV
  rw [HT.sIx_nat, HT.sIx_nat, Nat.min_eq_left hb, Nat.min_eq_left (Nat.le_trans h hb)]
theorem cutV_upto {xs : List V} {b : Nat} (hb : b ≤ xs.length) : cutV xs none (some (b : Int)) = xs.take b := by
  unfold cutV
  rw [HT.sIx_none, HT.sIx_nat, Nat.min_eq_left hb, List.drop_zero, Nat.sub_zero]
theorem cutV_from {xs : List V} {a : Nat} (ha : a ≤ xs.length) : cutV xs (some (a : Int)) none = xs.drop a := by
  unfold cutV
  rw [HT.sIx_none, HT.sIx_nat, Nat.min_eq_left ha, List.take_of_length_le (by rw [List.length_drop]; omega)]
theorem w_slC {a : Addr} {xs ys : List V} {lo hi : Option Int} {Q : VK} (h : Sq true K H a xs) (e : cutV xs lo hi = ys) (q : ∀ p, H p = none → Q (.ref p) (L2.upd H p (.lst ys))) : rSlG K (.ref a) lo hi H Q :=
  .inl ⟨a, xs, rfl, h, fun p hp => by rw [e]; exact q p hp⟩
theorem cutV_int {xs : List V} {a b : Int} (h0 : 0 ≤ a) (h : a ≤ b) (hb : b ≤ xs.length) : cutV xs (some a) (some b) = (xs.drop a.toNat).take (b.toNat - a.toNat) := by
  obtain ⟨n, rfl⟩ := Int.eq_ofNat_of_zero_le h0
  obtain ⟨m, rfl⟩ := Int.eq_ofNat_of_zero_le (Int.le_trans h0 h)
  rw [Int.toNat_natCast, Int.toNat_natCast]
  exact cutV_fromto (by omega) (by omega)
theorem cutV_intTo {xs : List V} {b : Int} (h0 : 0 ≤ b) (hb : b ≤ xs.length) : cutV xs none (some b) = xs.take b.toNat := by
  obtain ⟨m, rfl⟩ := Int.eq_ofNat_of_zero_le h0
  rw [Int.toNat_natCast]
  exact cutV_upto (by omega)
/-- a cut of a list or of a tuple -/
theorem w_slAny {b : Bool} {a : Addr} {xs ys : List V} {lo hi : Option Int} {Q : VK} (h : Sq b K H a xs) (e : cutV xs lo hi = ys) (q : ∀ p H', Same H H' → Sq b K H' p ys → Q (.ref p) H') : rSlG K (.ref a) lo hi H Q := by
  cases b with
  | true => exact .inl ⟨a, xs, rfl, h, fun p hp => q _ _ (Same.new hp) (Sq.lst (by rw [upd_same, e]))⟩
  | false =>
    refine .inr ⟨a, xs, rfl, h, fun hw => ?_, fun _ p hp => q _ _ (Same.new hp) (Sq.tup (by rw [upd_same, e]))⟩
    have e2 : xs = ys := by
      rw [← e]
      unfold cutV
      rw [hw.1, hw.2, List.drop_zero, Nat.sub_zero, List.take_length]
    exact q _ _ (Same.refl _) (e2 ▸ h)
theorem rep_cut {α : Type} {R : Rep α} {vs : List V} {xs : List α} (hr : ∀ (i : Nat) y x, vs[i]? = some y → xs[i]? = some x → R H y x) (a n : Nat) : ∀ (i : Nat) y x, ((vs.drop a).take n)[i]? = some y → ((xs.drop a).take n)[i]? = some x → R H y x := fun i y x h1 h2 => by
  rw [List.getElem?_take] at h1 h2
  split at h1
  · rw [if_pos (by assumption), List.getElem?_drop] at h2
    rw [List.getElem?_drop] at h1
    exact hr _ _ _ h1 h2
  · cases h1
theorem rep_to {α : Type} {R : Rep α} {vs : List V} {xs : List α} (hr : ∀ (i : Nat) y x, vs[i]? = some y → xs[i]? = some x → R H y x) (n : Nat) : ∀ (i : Nat) y x, (vs.take n)[i]? = some y → (xs.take n)[i]? = some x → R H y x := rep_cut hr 0 n
/-- adding two lists -/
theorem w_catLL {l b : Addr} {xs zs : List V} {Q : VK} (h1 : H l = some (.lst xs)) (h2 : H b = some (.lst zs)) (hz : xs.length + zs.length ≤ sizeLine) (q : ∀ p, H p = none → Q (.ref p) (L2.upd H p (.lst (xs ++ zs)))) : rAddG K (.ref l) (.ref b) H Q :=
  .inr (.inr ⟨l, b, xs, zs, rfl, rfl, h1, h2, hz, q⟩)
end
end L2

namespace L2
open PySem PySem.Spec PyProof.Rows
/-! ### data without lists, equal to itself -/
mutual
theorem eqv_refl : ∀ d : PyData, d.canLay0 = true → PyData.eqv d d = true
  | .none, _ => by simp only [PyData.eqv]
  | .bool b, _ => by simp only [PyData.eqv, beq_self_eq_true]
  | .int i, _ => by simp only [PyData.eqv, beq_self_eq_true]
  | .str x, _ => by simp only [PyData.eqv, beq_self_eq_true]
  | .list xs, h => by
    simp only [PyData.eqv]
    exact eqvAll_refl xs (by simpa only [PyData.canLay0] using h)
  | .tuple xs, h => by
    simp only [PyData.eqv]
    exact eqvAll_refl xs (by simpa only [PyData.canLay0] using h)
  | .dict _, h => by simp only [PyData.canLay0] at h; cases h
theorem eqvAll_refl : ∀ ds : List PyData, PyData.canLayAll0 ds = true → PyData.eqvAll ds ds = true
  | [], _ => by simp only [PyData.eqvAll]
  | d :: r, h => by
    simp only [PyData.canLayAll0, Bool.and_eq_true] at h
    simp only [PyData.eqvAll, eqv_refl d h.1, eqvAll_refl r h.2, Bool.and_self]
end
/-- data of a kind: as PyData, laid, no deeper than n -/
structure Dat {α : Type} (K : PySem.W.Frag) (R : Rep α) (f : α → PyData) (n : Nat) : Prop where
  dp : ∀ H v d, R H v d → Dp K H v (f d)
  lay : ∀ d, (f d).canLay0 = true
  deep : ∀ d, (f d).depth ≤ n
theorem canLayAll_map {α : Type} {f : α → PyData} (h : ∀ d, (f d).canLay0 = true) : ∀ ds : List α, PyData.canLayAll0 (ds.map f) = true
  | [] => by simp only [List.map_nil, PyData.canLayAll0]
  | d :: r => by simp only [List.map_cons, PyData.canLayAll0, h d, canLayAll_map h r, Bool.and_self]
theorem depthAll_map {α : Type} {f : α → PyData} {n : Nat} (h : ∀ d, (f d).depth ≤ n) : ∀ ds : List α, PyData.depthAll (ds.map f) ≤ n
  | [] => by simp only [List.map_nil, PyData.depthAll]; exact Nat.zero_le _
  | d :: r => by
    simp only [List.map_cons, PyData.depthAll]
    exact Nat.max_le.mpr ⟨h d, depthAll_map h r⟩
theorem dpAll_map {α : Type} {K : PySem.W.Frag} {R : Rep α} {f : α → PyData} {H : Hp} (h : ∀ v d, R H v d → Dp K H v (f d)) : ∀ {vs : List V} {ds : List α}, vs.length = ds.length → (∀ (i : Nat) y x, vs[i]? = some y → ds[i]? = some x → R H y x) → DpAll K H vs (ds.map f)
  | [], [], _, _ => .nil
  | v :: vs, d :: ds, hl, hr => .cons (h v d (hr 0 v d rfl rfl)) (dpAll_map h (by simpa using hl) fun i y x h1 h2 => hr (i + 1) y x (by simpa using h1) (by simpa using h2))
theorem Dat.seq {α : Type} {K : PySem.W.Frag} {R : Rep α} {f : α → PyData} {n : Nat} (h : Dat K R f n) : Dat K (RSeq false K R) (fun ds => .tuple (ds.map f)) (n + 1) where
  dp := fun H v ds ⟨a, vs, e, hs, hl, hr⟩ => by subst e; exact .tup hs (dpAll_map (h.dp H) hl hr)
  lay := fun ds => by simp only [PyData.canLay0]; exact canLayAll_map h.lay ds
  deep := fun ds => by simp only [PyData.depth]; exact Nat.succ_le_succ (depthAll_map h.deep ds)
theorem Dat.vec {K : PySem.W.Frag} : Dat K (RVec false K) (fun ns => .tuple (ns.map PyData.int)) 1 where
  dp := fun H v ns ⟨a, e, hs⟩ => by subst e; exact .tup hs dpAll_ints
  lay := fun ns => by simp only [PyData.canLay0]; exact canLay_ints ns
  deep := fun ns => by simp only [PyData.depth, depth_ints]; exact Nat.le_refl _
theorem Dat.pair {α β : Type} {K : PySem.W.Frag} {R : Rep α} {S : Rep β} {f : α → PyData} {g : β → PyData} {n : Nat} (h : Dat K R f n) (h' : Dat K S g n) : Dat K (RPair K R S) (fun p => .tuple [f p.1, g p.2]) (n + 1) where
  dp := fun H v p ⟨a, x, y, e, hs, h1, h2⟩ => by subst e; exact .tup hs (.cons (h.dp _ _ _ h1) (.cons (h'.dp _ _ _ h2) .nil))
  lay := fun p => by simp only [PyData.canLay0, PyData.canLayAll0, h.lay, h'.lay, Bool.and_self]
  deep := fun p => by
    simp only [PyData.depth, PyData.depthAll]
    exact Nat.succ_le_succ (Nat.max_le.mpr ⟨h.deep _, Nat.max_le.mpr ⟨h'.deep _, Nat.zero_le _⟩⟩)
theorem Dat.up {α : Type} {K : PySem.W.Frag} {R : Rep α} {f : α → PyData} {n m : Nat} (h : Dat K R f n) (hm : n ≤ m) : Dat K R f m := ⟨h.dp, h.lay, fun d => Nat.le_trans (h.deep d) hm⟩
theorem Dat.shaped {α : Type} {K : PySem.W.Frag} {R : Rep α} {f : α → PyData} {n : Nat} (h : Dat K R f n) (hn : n ≤ 64) (d : α) : SeqAt.shaped (f d) = true := by
  unfold SeqAt.shaped
  rw [h.lay, decide_eq_true (Nat.le_trans (h.deep d) hn)]
  rfl
theorem w_neSame {α : Type} {K : PySem.W.Frag} {H : Hp} {Q : VK} {R : Rep α} {f : α → PyData} {n : Nat} (h : Dat K R f n) (hn : n ≤ 64) {x y : V} {d : α} (hx : R H x d) (hy : R H y d) (q : Q (.bl false) H) : rNeG K x y H Q :=
  w_neD (h.dp _ _ _ hx) (h.dp _ _ _ hy) (h.shaped hn d) (h.shaped hn d) (by rw [eqv_refl _ (h.lay d)]; exact q)
theorem w_eqSame {α : Type} {K : PySem.W.Frag} {H : Hp} {Q : VK} {R : Rep α} {f : α → PyData} {n : Nat} (h : Dat K R f n) (hn : n ≤ 64) {x y : V} {d : α} (hx : R H x d) (hy : R H y d) (q : Q (.bl true) H) : rEqG K x y H Q :=
  w_eqD (h.dp _ _ _ hx) (h.dp _ _ _ hy) (h.shaped hn d) (h.shaped hn d) (by rw [eqv_refl _ (h.lay d)]; exact q)
theorem sIx_neg (n d : Nat) : HT.sIx n d (some (-1)) = n - 1 := by
  show (if (-1 : Int) < 0 then ((-1 : Int) + (n : Int)).toNat else min (-1 : Int).toNat n) = n - 1
  rw [if_pos (by decide)]
  omega
theorem cutV_neg {xs : List V} : cutV xs none (some (-1)) = xs.take (xs.length - 1) := by
  unfold cutV
  rw [HT.sIx_none, sIx_neg, List.drop_zero, Nat.sub_zero]
theorem cutV_negFrom {xs : List V} : cutV xs (some (-1)) none = xs.drop (xs.length - 1) := by
  unfold cutV
  rw [HT.sIx_none, sIx_neg, List.take_of_length_le (by rw [List.length_drop]; omega)]
end L2

namespace L2
open PySem PySem.Spec PyProof.Rows
/-! ### the rules that name the written part, K said (within a comprehension's block it is told by rfl) -/
section
variable {X : Cx} {K : PySem.W.Frag} {a b : Expr} {ta tb : TE} {pos : Pos}
theorem k_addG (h : X.K = K) : OpR X (binaryOp .Add) (rAddG K) := h ▸ op_addG
theorem k_eqG (h : X.K = K) (hu : X.A.units + 64 < cLine) : OpR X (compareOp .Eq) (rEqG K) := h ▸ op_eqG hu
theorem k_neG (h : X.K = K) (hu : X.A.units + 64 < cLine) : OpR X (compareOp .NotEq) (rNeG K) := h ▸ op_neG hu
theorem k_inS (h : X.K = K) : OpR X (compareOp .In) (rIn K false) := h ▸ op_in_seq
theorem k_notInS (h : X.K = K) : OpR X (compareOp .NotIn) (rIn K true) := h ▸ op_notIn_seq
theorem k_slG (h : X.K = K) : SlR X (rSlG K) := h ▸ sl_seqG
theorem k_ix (h : X.K = K) : IxR X (rIx K) := h ▸ ix_seq
theorem k_sumS (h : X.K = K) (hc : X.calm = true) : CallR X (.builtin "sum") (rSumS K) := h ▸ cr_sumS hc
theorem k_lenS (h : X.K = K) : CallR X (.builtin "len") (rLenS K) := h ▸ cr_lenS
theorem k_listS (h : X.K = K) : CallR X (.type "list") (rListS K) := h ▸ cr_listS
theorem k_tupS (h : X.K = K) : CallR X (.type "tuple") (rTupS K) := h ▸ cr_tupS
theorem k_isi (h : X.K = K) : CallR X (.builtin "isinstance") (rIsi K) := h ▸ call_isi
theorem k_max (h : X.K = K) (hc : X.calm = true) : CallR X (.builtin "max") (rMax K) := h ▸ cr_max hc
theorem k_min (h : X.K = K) (hc : X.calm = true) : CallR X (.builtin "min") (rMin K) := h ▸ cr_min hc
theorem k_index (h : X.K = K) : MtR X "list.index" (rIndex K) := h ▸ mt_index
theorem k_tru {e : Expr} {te : TE} (h : X.K = K) (he : PE X e te) (hi : ∀ whole, isTrue e X.env whole = (do let v ← whole; standAt e.pos; holding [v] (truthy v))) : PT X e (tTru K te) := h ▸ pt_tru he hi
theorem k_fld {e : Expr} {f : Str} (h : X.K = K) (he : PE X e ta) (hb : attributeBase e f X.env (eval e X.env) = eval e X.env) : PE X (.Attribute e f pos) (tFld K ta f) := h ▸ pe_fld he hb
theorem k_sfld {o value : Expr} {f : Str} {pos' : Pos} {tv : TE} (h : X.K = K) (ha : PE X o ta) (hv : PE X value tv) (hs : swapsWith value (some (.Attribute o f pos')) pos.line X.env = pure false) : PS X (.Assign [.Attribute o f pos'] value pos) (sFld K ta tv f) := h ▸ ps_fld ha hv hs
theorem k_tup {es : List Expr} {kk : Nat} {t : TGs} {n : Nat} (h : X.K = K) (hc : X.calm = true) (hg : PGs X es t) (hn : (assignEach es X.env).length = n := by rfl) (hst : (assignEach es X.env).findIdx? (·.1) = none := by rfl) :
    PG X (.Tuple es kk pos) (gTup K n t) := h ▸ pg_tup hc hg hn hst
theorem k_seqS {tg l : Expr} {tl : TE} (h : X.K = K) (hl : PE X l tl) : PI X tg l (iSeq K tl) := h ▸ pi_seqS hl
theorem k_enumS {e : Expr} {ta : TA} {p pos tpos : Pos} {elts : List Expr} {kk : Nat} (h : X.K = K) (hg : Gl X "enumerate") (hm : X.mg "enumerate" = none) (ha : PA X [e] ta) (hs : starEach [e] X.env = [(false, eval e X.env)] := by rfl) :
    PI X (.Tuple elts kk tpos) (.Call (.Name "enumerate" p) [e] [] pos) (iEnumS K ta) := h ▸ pi_enumS hg hm ha hs
theorem k_zipS {e e2 : Expr} {ta : TA} {p pos tpos : Pos} {elts : List Expr} {kk : Nat} (h : X.K = K) (hg : Gl X "zip") (hm : X.mg "zip" = none) (ha : PA X [e, e2] ta)
    (hs : starEach [e, e2] X.env = (false, eval e X.env) :: starEach [e2] X.env := by rfl) (hpl : (backTo pos (starEach [e2] X.env)).any (·.1) = false := by rfl) :
    PI X (.Tuple elts kk tpos) (.Call (.Name "zip" p) [e, e2] [] pos) (iZipS K ta) := h ▸ pi_zipS hg hm ha hs hpl
theorem k_bm {o e : Expr} {es : List Expr} {to : TE} {t : TA} {name : Str} {apos cpos : Pos} {T id : String} {r : V → List V → Hp → VK → Prop} (h : X.K = K)
    (pa : PlainAttrs T) (slot : Slot T name id) (hty : typeOf (.builtin id) = pure (.type "method_descriptor")) (hm : MtR X id r) (ho : PE X o to) (ha : PA X (e :: es) t)
    (hbase : attributeBase o name X.env (eval o X.env) = eval o X.env := by rfl)
    (hfew : ((backTo cpos (starEach (e :: es) X.env)).all (fun x => !x.1) && (backToKw cpos (keywordEach [] X.env)).all (fun x => x.1.isSome)
      && decide ((e :: es).length + ([] : List Keyword).length + (if ([] : List Keyword).isEmpty then 0 else 1) < 30)) = true := by rfl)
    (hline : (apos.endLine == cpos.line) = true := by rfl) (hs : starEach (e :: es) X.env = (false, eval e X.env) :: starEach es X.env := by rfl) (hplain : (backTo cpos (starEach es X.env)).any (·.1) = false := by rfl) :
    PE X (.Call (.Attribute o name apos) (e :: es) [] cpos) (tBM K T r to t) := h ▸ pe_bm pa slot hty hm ho ha hbase hfew hline hs hplain
end
end L2

namespace L2
open PySem PySem.Spec PyProof.Rows
/-! ### dicts with texts as keys: read, written, made -/
theorem u1 {n : Nat} (h : n + 64 < cLine) : n + 1 < cLine := by omega
section
variable {K : PySem.W.Frag} {σ : St} {H : Hp} {v : V} {Q : VK} {td ty tv : TE} {a : Addr} {kvs kvs' : List (Key × V)} {s : Str}
theorem w_dget (q : td σ H fun x H1 => ty σ H1 fun y H2 => ∃ a v, x = .ref a ∧ DGet H2 a y (some v) ∧ Q v H2) : tDGet td ty σ H Q := q
theorem w_dgetAt (h : H a = some (.dK kvs)) (l : valV kvs (.inr s) = some v) {F : V → Prop} (q : F v) : ∃ a' v', V.ref a = .ref a' ∧ DGet H a' (.str s) (some v') ∧ F v' := ⟨a, v, rfl, by rw [← l]; exact DGet.k (k := .inr s) h, q⟩
theorem w_dput {nx b' c' : St → Hp → Prop} {rt : VK} (q : tv σ H fun v H1 => td σ H1 fun x H2 => ty σ H2 fun y H3 => ∃ a H4, x = .ref a ∧ DPut H3 a y v H4 ∧ nx σ H4) : sDPut td ty tv ⟨nx, rt, b', c'⟩ σ H := q
theorem w_dputAt (h : H a = some (.dK kvs)) (hl : kvs.length < 1000) (e : putK kvs (.inr s) v = kvs') {F : Hp → Prop} (q : F (upd H a (.dK kvs'))) : ∃ a' H4, V.ref a = .ref a' ∧ DPut H a' (.str s) v H4 ∧ F H4 :=
  ⟨a, _, rfl, DPut.k (k := .inr s) h (by rw [sizeLine_eq]; omega), by rw [e]; exact q⟩
theorem w_disp {trs : List (TE × TE)} (q : ∀ p, H p = none → tPairs trs σ (upd H p (.dK [])) fun ps H2 => H2 p = some (.dK []) ∧ ∃ kvs : List (Key × V), ps = kvs.map (fun kv => (kV kv.1, kv.2)) ∧ kvs.length ≤ 15 ∧ Q (.ref p) (upd H2 p (.dK (mergeK [] kvs)))) : tDisp trs σ H Q := q
theorem w_pair0 {Qp : List (V × V) → Hp → Prop} (q : Qp [] H) : tPairs [] σ H Qp := q
theorem w_pair1 {Qp : List (V × V) → Hp → Prop} {tk tv : TE} {r : List (TE × TE)} (q : tk σ H fun x H1 => tv σ H1 fun y H2 => tPairs r σ H2 fun ps H3 => Qp ((x, y) :: ps) H3) : tPairs ((tk, tv) :: r) σ H Qp := q
end
/-- what stands elsewhere than at t stays -/
def Fr (t : Addr) (H H' : Hp) : Prop := ∀ b o, b ≠ t → H b = some o → H' b = some o
theorem Fr.refl (t : Addr) (H : Hp) : Fr t H H := fun _ _ _ e => e
theorem Fr.trans {t : Addr} {H H' H'' : Hp} (h : Fr t H H') (h' : Fr t H' H'') : Fr t H H'' := fun b o n e => h' b o n (h b o n e)
theorem Fr.upd {t : Addr} {H H' : Hp} (h : Fr t H H') (o : HO) : Fr t H (upd H' t o) := fun b u n e => by
  rw [upd_ne n]
  exact h b u n e
theorem Fr.same {t : Addr} {H H' : Hp} (h : Same H H') : Fr t H H' := fun b o _ e => h b o e
theorem Fr.sq {t : Addr} {H H' : Hp} {b : Bool} {K : PySem.W.Frag} {a : Addr} {xs : List V} (f : Fr t H H') (ht : ∃ kvs, H t = some (.dK kvs)) (h : Sq b K H a xs) : Sq b K H' a xs := by
  obtain ⟨kvs, ht⟩ := ht
  cases b with
  | true =>
    have h : SqL K H a xs := h
    rcases h with (h | ⟨o, h⟩) | h
    · exact .inl (.inl (f _ _ (fun e => by rw [e, ht] at h; cases h) h))
    · exact .inl (.inr ⟨o, f _ _ (fun e => by rw [e, ht] at h; cases h) h⟩)
    · exact .inr h
  | false =>
    have h : SqT K H a xs := h
    rcases h with (h | ⟨o, h⟩) | h
    · exact .inl (.inl (f _ _ (fun e => by rw [e, ht] at h; cases h) h))
    · exact .inl (.inr ⟨o, f _ _ (fun e => by rw [e, ht] at h; cases h) h⟩)
    · exact .inr h
/-- the tape: its cells, place, great number, how many left, seed, turn -/
def tapeF (l : Addr) (at_ gr le se tu : Int) : List (Key × V) := [(.inr "cells", .ref l), (.inr "at", .int at_), (.inr "great", .int gr), (.inr "left", .int le), (.inr "seed", .int se), (.inr "turn", .int tu)]
def IsTape (H : Hp) (t l : Addr) : Prop := ∃ (cs : List Int) (at_ gr le se tu : Int), H t = some (.dK (tapeF l at_ gr le se tu)) ∧ H l = some (.lst (cs.map V.int)) ∧ 0 ≤ at_
theorem IsTape.same {H H' : Hp} {t l : Addr} (s : Same H H') (h : IsTape H t l) : IsTape H' t l := by
  obtain ⟨cs, a, b, c, d, e, h1, h2, h3⟩ := h
  exact ⟨cs, a, b, c, d, e, s _ _ h1, s _ _ h2, h3⟩
theorem IsTape.upd {H : Hp} {t l D : Addr} {o : HO} (h1 : D ≠ t) (h2 : D ≠ l) (h : IsTape H t l) : IsTape (upd H D o) t l := by
  obtain ⟨cs, a, b, c, d, e, g1, g2, g3⟩ := h
  exact ⟨cs, a, b, c, d, e, (upd_ne (Ne.symm h1)).trans g1, (upd_ne (Ne.symm h2)).trans g2, g3⟩
theorem val_neg {j k : Key} {u : V} {kvs : List (Key × V)} (h : ¬ j = k) : valV ((j, u) :: kvs) k = valV kvs k := valV_neg h
theorem val_pos {k : Key} {u : V} {kvs : List (Key × V)} : valV ((k, u) :: kvs) k = some u := valV_pos rfl
theorem tape_cells {l : Addr} {at_ gr le se tu : Int} : valV (tapeF l at_ gr le se tu) (.inr "cells") = some (.ref l) := val_pos
theorem tape_at {l : Addr} {at_ gr le se tu : Int} : valV (tapeF l at_ gr le se tu) (.inr "at") = some (.int at_) := (val_neg (by decide +kernel)).trans val_pos
theorem tape_great {l : Addr} {at_ gr le se tu : Int} : valV (tapeF l at_ gr le se tu) (.inr "great") = some (.int gr) := (val_neg (by decide +kernel)).trans ((val_neg (by decide +kernel)).trans val_pos)
theorem tape_left {l : Addr} {at_ gr le se tu : Int} : valV (tapeF l at_ gr le se tu) (.inr "left") = some (.int le) := (val_neg (by decide +kernel)).trans ((val_neg (by decide +kernel)).trans ((val_neg (by decide +kernel)).trans val_pos))
theorem tape_seed {l : Addr} {at_ gr le se tu : Int} : valV (tapeF l at_ gr le se tu) (.inr "seed") = some (.int se) := (val_neg (by decide +kernel)).trans ((val_neg (by decide +kernel)).trans ((val_neg (by decide +kernel)).trans ((val_neg (by decide +kernel)).trans val_pos)))
theorem tape_turn {l : Addr} {at_ gr le se tu : Int} : valV (tapeF l at_ gr le se tu) (.inr "turn") = some (.int tu) := (val_neg (by decide +kernel)).trans ((val_neg (by decide +kernel)).trans ((val_neg (by decide +kernel)).trans ((val_neg (by decide +kernel)).trans ((val_neg (by decide +kernel)).trans val_pos))))
/-- a store at a key that is there -/
def replK (kvs : List (Key × V)) (k : Key) (v : V) : List (Key × V) := kvs.map fun kv => if kv.1 = k then (kv.1, v) else kv
theorem putK_repl {kvs : List (Key × V)} {k : Key} {v u : V} (h : valV kvs k = some u) : putK kvs k v = replK kvs k v := by
  unfold putK
  rw [valV_any, h]
  rfl
theorem repl_pos {kvs : List (Key × V)} {k : Key} {v u : V} : replK ((k, u) :: kvs) k v = (k, v) :: replK kvs k v := by
  show (if k = k then _ else _) :: _ = _
  rw [if_pos rfl]; rfl
theorem repl_neg {kvs : List (Key × V)} {k j : Key} {v u : V} (h : ¬ j = k) : replK ((j, u) :: kvs) k v = (j, u) :: replK kvs k v := by
  show (if j = k then _ else _) :: _ = _
  rw [if_neg h]; rfl
theorem tape_setAt {l : Addr} {at_ gr le se tu z : Int} : putK (tapeF l at_ gr le se tu) (.inr "at") (.int z) = tapeF l z gr le se tu := by
  rw [putK_repl tape_at]; unfold tapeF
  rw [repl_neg (by decide +kernel), repl_pos, repl_neg (by decide +kernel), repl_neg (by decide +kernel), repl_neg (by decide +kernel), repl_neg (by decide +kernel)]; rfl
theorem tape_setGreat {l : Addr} {at_ gr le se tu z : Int} : putK (tapeF l at_ gr le se tu) (.inr "great") (.int z) = tapeF l at_ z le se tu := by
  rw [putK_repl tape_great]; unfold tapeF
  rw [repl_neg (by decide +kernel), repl_neg (by decide +kernel), repl_pos, repl_neg (by decide +kernel), repl_neg (by decide +kernel), repl_neg (by decide +kernel)]; rfl
theorem tape_setLeft {l : Addr} {at_ gr le se tu z : Int} : putK (tapeF l at_ gr le se tu) (.inr "left") (.int z) = tapeF l at_ gr z se tu := by
  rw [putK_repl tape_left]; unfold tapeF
  rw [repl_neg (by decide +kernel), repl_neg (by decide +kernel), repl_neg (by decide +kernel), repl_pos, repl_neg (by decide +kernel), repl_neg (by decide +kernel)]; rfl
theorem tape_setSeed {l : Addr} {at_ gr le se tu z : Int} : putK (tapeF l at_ gr le se tu) (.inr "seed") (.int z) = tapeF l at_ gr le z tu := by
  rw [putK_repl tape_seed]; unfold tapeF
  rw [repl_neg (by decide +kernel), repl_neg (by decide +kernel), repl_neg (by decide +kernel), repl_neg (by decide +kernel), repl_pos, repl_neg (by decide +kernel)]; rfl
theorem tape_setTurn {l : Addr} {at_ gr le se tu z : Int} : putK (tapeF l at_ gr le se tu) (.inr "turn") (.int z) = tapeF l at_ gr le se z := by
  rw [putK_repl tape_turn]; unfold tapeF
  rw [repl_neg (by decide +kernel), repl_neg (by decide +kernel), repl_neg (by decide +kernel), repl_neg (by decide +kernel), repl_neg (by decide +kernel), repl_pos]; rfl
theorem tape_len {l : Addr} {at_ gr le se tu : Int} : (tapeF l at_ gr le se tu).length < 1000 := by show 6 < 1000; omega
end L2

namespace L2
open PySem PySem.Spec PyProof.Rows
/-! ### o[i] += e in lists; comprehensions with any state, with or without a test -/
def rGetL : V → V → Hp → VK → Prop := fun o i H Q => ∃ p xs k x, o = .ref p ∧ i = .int k ∧ 0 ≤ k ∧ H p = some (.lst xs) ∧ xs[k.toNat]? = some x ∧ Q x H
theorem get_list {X : Cx} : PGet X rGetL := by
  intro pins s σ H o i ov iv Q I ro ri h
  obtain ⟨p, xs, k, x, rfl, rfl, h0, hp, hx, q⟩ := h
  cases ro
  obtain ⟨t, rfl⟩ := ri
  obtain ⟨its, r, pl, hz⟩ := I.list (SqL.of hp)
  obtain ⟨w, ew, rw'⟩ := r.get hx
  have h1 := (List.getElem?_eq_some_iff.mp hx).1
  rw [sizeLine_eq] at hz
  exact wpAny_getItem_list pl.isList h0 (by omega) (by simpa using ew) ⟨x, H, I, rw', q⟩
section
variable {K : PySem.W.Frag} {σ : St} {H : Hp} {tt : TT} {te : TE} {g : TG} {vs : List Nat} {Q : VK}
theorem w_augS {to ti te : TE} {tget : V → V → Hp → VK → Prop} {tip : TIp} {tset : TSet} {nx b' c' : St → Hp → Prop} {rt : VK} (q : to σ H fun o H1 => ti σ H1 fun i H2 => tget o i H2 fun x H3 => te σ H3 fun y H4 => tip x y H4 fun z H5 => tset o i z H5 fun H6 => nx σ H6) : tAugS to ti te tget tip tset ⟨nx, rt, b', c'⟩ σ H := q
theorem w_prop {C : Addr} {sp : Sp} {dvs : List V} {E : XK} {ta : TE} (q : ta σ H fun x H1 => ∃ a dx fs, x = .ref a ∧ H1 a = some (.ins C dx fs) ∧ sp (.ref a :: dvs) H1 Q E) : tProp C sp dvs E ta σ H Q := q
theorem w_propAt {p C dx : Addr} {fs : List (Str × V)} {F : Addr → Prop} (h : H p = some (.ins C dx fs)) (q : F p) : ∃ a dx fs, V.ref p = .ref a ∧ H a = some (.ins C dx fs) ∧ F a := ⟨p, dx, fs, rfl, h, q⟩
theorem w_lstRg {t : L2.St → Hp → (Int → Int → Hp → Prop) → Prop} (q : t σ H fun a b H1 => RgOk a b ∧ ∀ q, H1 q = none → Q (.ref q) (upd H1 q (.lst (rgV a b)))) : tLstRg t σ H Q := q
theorem w_tupRg {t : L2.St → Hp → (Int → Int → Hp → Prop) → Prop} (q : t σ H fun a b H1 => RgOk a b ∧ ∀ q, H1 q = none → Q (.ref q) (upd H1 q (.tup (rgV a b)))) : tTupRg t σ H Q := q
theorem w_rg1 {ta : TE} {QR : Int → Int → Hp → Prop} (q : ta σ H fun x H1 => ∃ n, x = .int n ∧ QR 0 n H1) : tRg1 ta σ H QR := q
theorem w_rg2 {ta tb : TE} {QR : Int → Int → Hp → Prop} (q : ta σ H fun x H1 => tb σ H1 fun y H2 => ∃ i j, x = .int i ∧ y = .int j ∧ QR i j H2) : tRg2 ta tb σ H QR := q
theorem w_getI {p : Addr} {ns : List Int} {k : Int} (h : H p = some (.lst (ns.map V.int))) (h0 : 0 ≤ k) (h1 : k < ns.length) (q : Q (.int (nth ns k)) H) : rGetL (.ref p) (.int k) H Q := by
  refine ⟨p, _, k, .int (nth ns k), rfl, rfl, h0, h, ?_, q⟩
  have e : k = ((k.toNat : Nat) : Int) := (Int.toNat_of_nonneg h0).symm
  rw [vec_get (ns := ns) (i := k.toNat) (by omega), ← e]
theorem l_compG {J : It} {n : Nat} {G : Hp → Prop} {Y : Nat → Hp → V → Hp → Prop} (w : Walk J n G Y) (hz : n < sizeLine) (Sv : Addr → Nat → List V → Hp → Prop) (h0 : ∀ D, H D = none → Sv D 0 [] (upd H D (.lst []))) (hG : ∀ D i acc H', Sv D i acc H' → G H')
    (hs : ∀ i x H1 H2 D acc (NT : VK) (NF : Hp → Prop), i < n → H D = none → Sv D i acc H1 → H1 D = some (.lst acc) → acc.length ≤ i → Y i H1 x H2 → (∀ y H5, H5 D = some (.lst acc) → Sv D (i + 1) (acc ++ [y]) (upd H5 D (.lst (acc ++ [y]))) → NT y H5) →
      (∀ H4, H4 D = some (.lst acc) → Sv D (i + 1) acc H4 → NF H4) → g x (wipe σ vs) H2 fun σ2 H3 => wipe σ2 vs = wipe σ vs ∧ tt σ2 H3 fun b H4 => if b = true then te σ2 H4 NT else NF H4)
    (k : ∀ D H' ys, H D = none → Sv D n ys H' → H' D = some (.lst ys) → ys.length ≤ n → Q (.ref D) H') : CompOk J g tt te vs σ H Q := by
  intro D hD
  refine lc_it w (fun i H' => ∃ acc, H' D = some (.lst acc) ∧ acc.length ≤ i ∧ Sv D i acc H') ⟨[], upd_same, Nat.le_refl _, h0 D hD⟩ (fun i H' _ ⟨acc, _, _, h⟩ => hG D i acc H' h) ?_ ?_
  · rintro i x H1 H2 hi ⟨acc, e, hl, st⟩ hy
    exact hs i x H1 H2 D acc _ _ hi hD st e hl hy (fun y H5 e5 s5 => ⟨acc, e5, Nat.lt_of_le_of_lt hl (Nat.lt_trans hi hz), acc ++ [y], upd_same, by rw [List.length_append, List.length_singleton]; omega, s5⟩) (fun H4 e4 s4 => ⟨acc, e4, by omega, s4⟩)
  · rintro H' ⟨acc, e, hl, st⟩
    exact k D H' acc hD st e hl
/-- for .. in range(n), of any state -/
theorem l_compGR {n : Int} {j : Nat} (h1 : -(2 ^ 62) ≤ n) (h2 : n < 16000000) (Sv : Addr → Nat → List V → Hp → Prop) (hw : ∀ x : V, wipe ((wipe σ vs).set j (some x)) vs = wipe σ vs) (h0 : ∀ D, H D = none → Sv D 0 [] (upd H D (.lst [])))
    (hs : ∀ (i : Nat) H1 D acc (NT : VK) (NF : Hp → Prop), (i : Int) < n → H D = none → Sv D i acc H1 → H1 D = some (.lst acc) → acc.length ≤ i → (∀ y H5, H5 D = some (.lst acc) → Sv D (i + 1) (acc ++ [y]) (upd H5 D (.lst (acc ++ [y]))) → NT y H5) →
      (∀ H4, H4 D = some (.lst acc) → Sv D (i + 1) acc H4 → NF H4) → tt ((wipe σ vs).set j (some (.int (i : Int)))) H1 fun b H4 => if b = true then te ((wipe σ vs).set j (some (.int (i : Int)))) H4 NT else NF H4)
    (k : ∀ D H' ys, H D = none → Sv D n.toNat ys H' → H' D = some (.lst ys) → ys.length ≤ n.toNat → Q (.ref D) H') :
    ∃ j' : Int, [V.int n] = [.int j'] ∧ -(2 ^ 62) ≤ j' ∧ j' < 2 ^ 62 ∧ CompOk (Itr 0 j'.toNat) (gName j) tt te vs σ H Q := by
  refine ⟨n, rfl, h1, by omega, l_compG (walk_range (lo := 0) (n := n.toNat)) (by rw [sizeLine_eq]; omega) Sv h0 (fun _ _ _ _ _ => trivial) (fun i x H1 H2 D acc NT NF hi hD st e1 hl hy hT hF => ?_) k⟩
  obtain ⟨e, ex⟩ := hy
  subst e ex
  show wipe ((wipe σ vs).set j (some (.int (0 + (i : Int))))) vs = wipe σ vs ∧ tt ((wipe σ vs).set j (some (.int (0 + (i : Int))))) _ fun b H4 => if b = true then te ((wipe σ vs).set j (some (.int (0 + (i : Int))))) H4 NT else NF H4
  rw [Int.zero_add]
  exact ⟨hw _, hs i _ D acc NT NF (by omega) hD st e1 hl hT hF⟩
/-- for .. in a list or a tuple, of any state -/
theorem l_compGS {b : Bool} {a : Addr} {j : Nat} (xs : List V) (hz : xs.length < sizeLine) (Sv : Addr → Nat → List V → Hp → Prop) (hx : Sq b K H a xs) (hw : ∀ x : V, wipe ((wipe σ vs).set j (some x)) vs = wipe σ vs) (h0 : ∀ D, H D = none → Sv D 0 [] (upd H D (.lst []))) (hG : ∀ D i acc H', Sv D i acc H' → Sq b K H' a xs)
    (hs : ∀ (i : Nat) x H1 D acc (NT : VK) (NF : Hp → Prop), i < xs.length → xs[i]? = some x → H D = none → Sv D i acc H1 → H1 D = some (.lst acc) → acc.length ≤ i → (∀ y H5, H5 D = some (.lst acc) → Sv D (i + 1) (acc ++ [y]) (upd H5 D (.lst (acc ++ [y]))) → NT y H5) →
      (∀ H4, H4 D = some (.lst acc) → Sv D (i + 1) acc H4 → NF H4) → tt ((wipe σ vs).set j (some x)) H1 fun b H4 => if b = true then te ((wipe σ vs).set j (some x)) H4 NT else NF H4)
    (k : ∀ D H' ys, H D = none → Sv D xs.length ys H' → H' D = some (.lst ys) → ys.length ≤ xs.length → Q (.ref D) H') :
    ∃ a', V.ref a = .ref a' ∧ ((∃ xs, SqL K H a' xs) ∧ CompOk (Itl K a') (gName j) tt te vs σ H Q ∨ (∃ xs, SqT K H a' xs) ∧ CompOk (Itt K a') (gName j) tt te vs σ H Q) := by
  refine ⟨a, rfl, ?_⟩
  cases b with
  | true =>
    refine .inl ⟨⟨xs, hx⟩, l_compG (walk_list (xs := xs)) hz Sv h0 hG (fun i x H1 H2 D acc NT NF hi hD st e1 hl hy hT hF => ?_) k⟩
    obtain ⟨e, ex⟩ := hy
    subst e
    exact ⟨hw _, hs i x _ D acc NT NF hi ex hD st e1 hl hT hF⟩
  | false =>
    refine .inr ⟨⟨xs, hx⟩, l_compG (walk_tup (xs := xs)) hz Sv h0 hG (fun i x H1 H2 D acc NT NF hi hD st e1 hl hy hT hF => ?_) k⟩
    obtain ⟨e, ex⟩ := hy
    subst e
    exact ⟨hw _, hs i x _ D acc NT NF hi ex hD st e1 hl hT hF⟩
end
end L2

namespace PySem.W
open PySem PySem.Calls PyProof.Rows Builtin
/-! ### == and != of instances whose class has its own __eq__ -/
section
variable {prog : Program} {w : World} {A : Around} {E : Value → Shared → Prop} {s : Shared} {K : Frag} {x C L f : Addr} {h₀ : Heap} {m : Str → Option Value} {ox : Obj} {od : Option Obj} {name : Str} {b tb : Value}
theorem ifBound_B {M : Model} {args : List Value} {id : String} {Q : Option Value → Shared → Prop} (X : K.In s.heap) (I : InstAt s.heap x ox C od) (hs : findIn K (.ref C) name = some (some (.builtin id)))
    (hb : ∀ self, bindSpecial (.builtin id) self = pure (.builtin id, [self])) (h : wpAny M A (call (.builtin id) (.ref x :: args)) (fun v => Q (some v)) E s) : wpAny M A (callSpecialIfBound? (.ref x) name args) Q E s := by
  simp only [callSpecialIfBound?, bindSpecialIfBound?]
  refine wpAny_holding (wpAny_bind (wpAny_bind (wpAny_bind (I.type.here ((looks_findIn X hs).here ?_)))))
  refine wpAny_bind (wpAny_askSetting (wpAny_ite ?_))
  have fin : wpAny M A (call (.builtin id) ([.ref x] ++ args) >>= fun v => pure (some v)) Q E s := wpAny_bind (wpAny_mono h (fun v s' h' => wpAny_pure h') fun _ _ h' => h')
  split
  · exact wpAny_bind ((Looks.of_pure (hb _)).here (wpAny_pure (by exact fin)))
  · exact wpAny_tryCatch (wpAny_bind ((Looks.of_pure (hb _)).here (wpAny_pure (by exact fin))))
theorem obj_ne {Q : Value → Shared → Prop} (hu : A.in1.units < cLine) (X : K.In s.heap) (I : InstAt s.heap x ox C od) (hm : mroIn K C (.type "object") = some true) (hs : findIn K (.ref C) "__eq__" = some (some (.ref f))) (hf : isFn K (.ref f) = true)
    (h : wpAny (model prog w) A.in1 (call (.ref f) [.ref x, b]) (fun v s' => ∃ c, v = .bool c ∧ Q (.bool (!c)) s') E s) : wpAny (model prog w) A (call (.builtin "object.__ne__") [.ref x, b]) Q E s := by
  refine wpAny_call (codeAny_call_builtin PySem.F.cmp_object.ne.plain PySem.F.cmpEntry_ne (check_slot PySem.F.cmpKind_ne PySem.F.cmpSplit_ne (I.type.andThen (looks_mroIn X hm)) (PySem.F.cmpArgs_ne _ _) ?_))
  unfold Builtin.«object.__ne__»
  refine wpAny_bind (m := slotArgs "__ne__" 1 _) (wpAny_pure ?_)
  refine wpAny_bind (m := cRoomFor _ _) (wpAny_cRoomFor hu ?_)
  refine wpAny_bind (m := callSpecialIfBound? (.ref x) (Str.ofString "__eq__") _) (ifBound_K X I hs hf (wpAny_mono h (fun r s' hq => ?_) fun _ _ y => y))
  obtain ⟨c, rfl, q⟩ := hq
  refine wpAny_bind (m := truthy (.bool _)) (wpAny_truthy_bool ?_)
  exact wpAny_pure q
theorem ne_own {Q : Value → Shared → Prop} (hu : A.units + 1 < cLine) (F : Fr h₀ L s.heap m) (X₀ : K.In h₀) (I : InstAt s.heap x ox C od) (hb : Looks (model prog w) s.heap (typeOf b) tb) (hn : notFirst K C tb = true)
    (hne : findIn K (.ref C) "__ne__" = some (some (.builtin "object.__ne__"))) (hm : mroIn K C (.type "object") = some true) (hs : findIn K (.ref C) "__eq__" = some (some (.ref f))) (hf : isFn K (.ref f) = true)
    (h : wpAny (model prog w) A.in1 (call (.ref f) [.ref x, b]) (fun v s' => ∃ c, v = .bool c ∧ Q (.bool (!c)) s') E s) : wpAny (model prog w) A (richCompare .NotEq (.ref x) b) Q E s := by
  have X := X₀.keeps F.keep
  have one : wpAny (model prog w) A (tryCompare (.ref x) (cmpInfo .NotEq).2.1 b) (fun r s' => ∃ v, r = some v ∧ Q v s') E s := by
    unfold tryCompare
    refine wpAny_bind (ifBound_B X I hne PySem.F.cmp_object.ne.bind (obj_ne (by show A.units + 1 < _; exact hu) X I hm hs hf (wpAny_mono h (fun v s' hv => ?_) fun _ _ e => e)))
    obtain ⟨c, rfl, q⟩ := hv
    exact ⟨c, rfl, wpAny_pure ⟨_, rfl, q⟩⟩
  unfold richCompare
  simp only [oneThing_ref]
  refine wpAny_holding (wpAny_bind (wpAny_cRoomFor (Nat.lt_of_succ_lt hu) ?_))
  refine wpAny_bind (I.type.here (wpAny_bind (hb.here ?_)))
  split
  · rename_i q
    have e : subIn K tb (.ref C) = some false := by
      rcases Bool.or_eq_true_iff.mp hn with e | e
      · rw [beq_iff_eq.mp e] at q; simp at q
      · exact beq_iff_eq.mp e
    refine wpAny_bind ((looks_subIn X e).here ?_)
    simp only [Bool.false_eq_true, if_false]
    refine wpAny_bind (wpAny_mono one (fun r s' z => ?_) fun _ _ e => e)
    obtain ⟨v, rfl, hq⟩ := z
    exact wpAny_pure hq
  · refine wpAny_bind (wpAny_pure ?_)
    simp only [Bool.false_eq_true, if_false]
    refine wpAny_bind (wpAny_mono one (fun r s' z => ?_) fun _ _ e => e)
    obtain ⟨v, rfl, hq⟩ := z
    exact wpAny_pure hq
end
end PySem.W
namespace L2
open PySem PySem.Spec PyProof.Rows
/-- what a class with its own == says of itself -/
structure EqOf (K : PySem.W.Frag) (C f : Addr) : Prop where
  eq : PySem.W.findIn K (.ref C) "__eq__" = some (some (.ref f))
  fn : PySem.W.isFn K (.ref f) = true
  ne : PySem.W.findIn K (.ref C) "__ne__" = some (some (.builtin "object.__ne__"))
  mro : PySem.W.mroIn K C (.type "object") = some true
/-- x == y, x an instance of the class at C: what its __eq__ (promise sp) answers, a bool -/
def rEqO (K : PySem.W.Frag) (C : Addr) (sp : Sp) : R2 := fun x y H Q => ∃ a dx fs t, x = .ref a ∧ H a = some (.ins C dx fs) ∧ TyX K H y t ∧ PySem.W.notFirst K C t = true ∧ sp [x, y] H (fun v H' => ∃ c, v = .bl c ∧ Q (.bl c) H') (fun _ _ _ => False)
def rNeO (K : PySem.W.Frag) (C : Addr) (sp : Sp) : R2 := fun x y H Q => ∃ a dx fs t, x = .ref a ∧ H a = some (.ins C dx fs) ∧ TyX K H y t ∧ PySem.W.notFirst K C t = true ∧ sp [x, y] H (fun v H' => ∃ c, v = .bl c ∧ Q (.bl (!c)) H') (fun _ _ _ => False)
section
variable {X : Cx} {CX : CXT} {C f : Addr} {fd : FuncData} {ps : List Str} {sp : Sp} {n : Nat}
theorem own_run {A : Around} {pins : List (Addr × Obj)} {σ : St} {H : Hp} {s : Shared} {Q : VK} {a : Addr} {y : V} {u : Value} (F : FnOk X.prog X.w X.K X.mg X.base CX n f fd ps sp) (hr : Room n A) (hfr : A.frames = X.A.frames) (hb : Binds X.K fd ps []) (hx : Passes CX X (fun _ _ _ => False))
    (I : Inv X pins σ H s) (ry : RelV y u) (h : sp [.ref a, y] H Q (fun _ _ _ => False)) : wpAny (model X.prog X.w) A (call (.ref f) [.ref a, u]) (EP X pins σ Q) X.xe s := by
  have e0 : Env0 X.prog X.w X.K X.mg X.base A X.stack s H := by
    have e := I.env0
    exact ⟨by rw [hfr]; exact e.frames, e.mod, e.bs, e.bsz, e.funs, e.frf, e.hok, e.bare⟩
  have hl := F.len _ _ _ _ h
  have r2 : Vals [V.ref a, y] [Value.ref a, u] := .cons rfl (.cons ry .nil)
  refine wpAny_call (codeAny_mono (F.run A X.stack s H ⟨[.ref a, u], []⟩ [.ref a, u] [.ref a, y] _ _ hr e0 (by
    have := hb s [.ref a, u] I.kIn (by simpa using hl)
    simpa using this) r2 h) fun r s' hq => ?_)
  cases r with
  | error e => exact hx pins σ H s e s' I hq
  | ok fl =>
    cases fl with
    | ret w => exact I.after hq
    | next => exact False.elim hq
    | brk => exact False.elim hq
    | cont => exact False.elim hq
theorem op_eqO (e : EqOf X.K C f) (F : FnOk X.prog X.w X.K X.mg X.base CX n f fd ps sp) (hr : Room n X.A) (hb : Binds X.K fd ps []) (hx : Passes CX X (fun _ _ _ => False)) : OpR X (compareOp .Eq) (rEqO X.K C sp) := by
  intro pins s σ H x y v u Q I rx ry hq
  obtain ⟨a, dx, fs, t, rfl, ha, ty, hn, h⟩ := hq
  obtain rfl : v = Value.ref a := rx
  obtain ⟨mA, J, _⟩ := ins_get I.hok ha
  obtain ⟨od, J, _⟩ := J.look
  obtain ⟨m, hF⟩ := I.fr
  obtain ⟨P, Z, p, _⟩ := kit_of I ry ty
  show wpAny (model X.prog X.w) X.A (richCompare .Eq (.ref a) u) (EP X pins σ Q) X.xe s
  have hu : X.A.units < cLine := by have := hr.un; omega
  refine PySem.W.cmp_K (op := .Eq) hu hF I.ok.mod.kin J (Z.ty _ _ I.kIn p) hn e.eq e.fn ?_
  refine wpAny_mono (own_run F hr rfl hb hx I ry h) (fun r s' z => ?_) fun _ _ z => z
  obtain ⟨z, H', I', rz, c, ez, q⟩ := z
  subst ez
  cases rz
  exact ⟨.bl c, H', I', rfl, q⟩
theorem op_neO (e : EqOf X.K C f) (F : FnOk X.prog X.w X.K X.mg X.base CX n f fd ps sp) (hr : Room (n + 1) X.A) (hb : Binds X.K fd ps []) (hx : Passes CX X (fun _ _ _ => False)) : OpR X (compareOp .NotEq) (rNeO X.K C sp) := by
  intro pins s σ H x y v u Q I rx ry hq
  obtain ⟨a, dx, fs, t, rfl, ha, ty, hn, h⟩ := hq
  obtain rfl : v = Value.ref a := rx
  obtain ⟨mA, J, _⟩ := ins_get I.hok ha
  obtain ⟨od, J, _⟩ := J.look
  obtain ⟨m, hF⟩ := I.fr
  obtain ⟨P, Z, p, _⟩ := kit_of I ry ty
  show wpAny (model X.prog X.w) X.A (richCompare .NotEq (.ref a) u) (EP X pins σ Q) X.xe s
  have hu : X.A.units + 1 < cLine := by have := hr.un; omega
  refine PySem.W.ne_own hu hF I.ok.mod.kin J (Z.ty _ _ I.kIn p) hn e.ne e.mro e.eq e.fn ?_
  refine wpAny_mono (own_run (A := X.A.in1) F hr.in1 rfl hb hx I ry h) (fun r s' z => ?_) fun _ _ z => z
  obtain ⟨z, H', I', rz, c, ez, q⟩ := z
  subst ez
  cases rz
  exact ⟨c, rfl, .bl (!c), H', I', rfl, q⟩
end
end L2
namespace L2
open PySem PySem.Spec PyProof.Rows
/-- what isinstance asks of an own class, and of tuples, numbers and texts beside it -/
structure OwnC (K : PySem.W.Frag) (C : Addr) : Prop where
  cls : PySem.W.findIn K (.ref C) "__class__" = some (some (.builtin "object.__class__"))
  get : PySem.W.specialIn K (.builtin "object.__class__") "__get__" = some (some (.builtin "getset_descriptor.__get__"))
  tak : PySem.W.takesIn K (.builtin "object.__class__") = some true
  mro : PySem.W.mroIn K C (.type "object") = some true
  isc : PySem.W.isClsIn K C = true
  typ : PySem.W.typeIn K (.ref C) = some (.type "type")
  sT : PySem.W.subIn K (.type "tuple") (.ref C) = some false
  sI : PySem.W.subIn K (.type "int") (.ref C) = some false
  sS : PySem.W.subIn K (.type "str") (.ref C) = some false
section
variable {K : PySem.W.Frag} {C : Addr} {H : Hp} {Q : VK} {x : V}
theorem OwnC.tyx (o : OwnC K C) (cl : Cls K C) {a dx : Addr} {fs : List (Str × V)} (h : H a = some (.ins C dx fs)) : TyX K H (.ref a) (.ref C) := .base (.ins h cl o.cls o.get o.tak o.mro)
theorem kit_self : PySem.W.kitOne K (.ref C) (.ref C) = some true := if_pos (beq_self_eq_true _)
theorem kit_no {n : String} (h1 : PySem.W.isClsIn K C = true) (h2 : PySem.W.typeIn K (.ref C) = some (.type "type")) (h : PySem.W.subIn K (.type n) (.ref C) = some false) : PySem.W.kitOne K (.type n) (.ref C) = some false := by
  have h1' : (PySem.W.clsIn K C).isSome = true := h1
  unfold PySem.W.kitOne
  rw [if_neg (by intro e; cases (beq_iff_eq.mp e))]
  show (if ((PySem.W.clsIn K C).isSome && PySem.W.typeIn K (.ref C) == some (.type "type")) = true then PySem.W.subIn K (.type n) (.ref C) else none) = some false
  rw [if_pos (by rw [h1', h2]; rfl)]
  exact h
theorem first_self : PySem.W.notFirst K C (.ref C) = true := by simp [PySem.W.notFirst]
theorem first_no {n : String} (h : PySem.W.subIn K (.type n) (.ref C) = some false) : PySem.W.notFirst K C (.type n) = true := by
  unfold PySem.W.notFirst
  rw [h]
  simp
theorem w_isOwn (o : OwnC K C) (cl : Cls K C) {a dx : Addr} {fs : List (Str × V)} (h : H a = some (.ins C dx fs)) (q : Q (.bl true) H) : rIsi K [.ref a, .ref C] H Q := ⟨_, _, _, _, _, rfl, .own C, o.tyx cl h, kit_self, q⟩
theorem w_isNot (o : OwnC K C) {n : String} (ht : TyX K H x (.type n)) (hs : PySem.W.subIn K (.type n) (.ref C) = some false) (q : Q (.bl false) H) : rIsi K [x, .ref C] H Q := ⟨_, _, _, _, _, rfl, .own C, ht, kit_no o.isc o.typ hs, q⟩
theorem w_rep {l : Addr} {xs : List V} {k : Int} (h : H l = some (.lst xs)) (h0 : 0 ≤ k) (h1 : k ≤ 1000) (hz : xs.length ≤ 1000) (q : ∀ p, H p = none → Q (.ref p) (upd H p (.lst (List.replicate k.toNat xs).flatten))) : rRep (.ref l) (.int k) H Q :=
  ⟨l, k, xs, rfl, rfl, h, by omega, by omega, by
    rw [sizeLine_eq]
    have : xs.length * k.toNat ≤ 1000 * 1000 := Nat.mul_le_mul hz (by omega)
    omega, q⟩
end
/-! ### rows of any values; rows of new lists -/
def RRw (b : Bool) (K : PySem.W.Frag) : Rep (List V) := fun H v xs => ∃ a, v = .ref a ∧ Sq b K H a xs
theorem RRw.mono {b : Bool} {K : PySem.W.Frag} : RMono (RRw b K) := fun _ _ _ _ s ⟨a, e, h⟩ => ⟨a, e, s.sq h⟩
theorem RRw.tup {K : PySem.W.Frag} : RTup (RRw false K) := fun _ _ _ _ hD ⟨a, e, h⟩ => ⟨a, e, sq_hide hD h⟩
/-- D a list of new lists: their addresses, none twice, none there before -/
def FRows (H0 H : Hp) (D : Addr) (rows : List (List V)) : Prop := ∃ ps : List Addr, H D = some (.lst (ps.map V.ref)) ∧ ps.length = rows.length ∧ ps.Nodup ∧ (∀ p ∈ ps, H0 p = none) ∧ H0 D = none ∧ D ∉ ps ∧ ∀ (i : Nat) p r, ps[i]? = some p → rows[i]? = some r → H p = some (.lst r)
section
variable {K : PySem.W.Frag} {H0 H H' : Hp} {D : Addr} {rows : List (List V)}
theorem FRows.mono (s : Same H H') (f : FRows H0 H D rows) : FRows H0 H' D rows := by
  obtain ⟨ps, h1, h2, h3, h4, h5, h6, h7⟩ := f
  exact ⟨ps, s _ _ h1, h2, h3, h4, h5, h6, fun i p r a b => s _ _ (h7 i p r a b)⟩
theorem FRows.seq (f : FRows H0 H D rows) : RSeq true K (RRw true K) H (.ref D) rows := by
  obtain ⟨ps, h1, h2, h3, h4, h5, h6, h7⟩ := f
  refine ⟨D, _, rfl, Sq.lst h1, by rw [List.length_map]; exact h2, fun i y x hy hx => ?_⟩
  rw [List.getElem?_map] at hy
  cases e : ps[i]? with
  | none => rw [e] at hy; cases hy
  | some p =>
    rw [e] at hy
    cases hy
    exact ⟨p, rfl, Sq.lst (h7 i p x e hx)⟩
/-- a store into one of the rows -/
theorem FRows.set {i : Nat} {r r' : List V} (f : FRows H0 H D rows) (hi : rows[i]? = some r) : ∃ p, (∃ ps : List Addr, H D = some (.lst (ps.map V.ref)) ∧ ps[i]? = some p) ∧ H p = some (.lst r) ∧ H0 p = none ∧ p ≠ D ∧ FRows H0 (upd H p (.lst r')) D (rows.set i r') := by
  obtain ⟨ps, h1, h2, h3, h4, h5, h6, h7⟩ := f
  have hlt := (List.getElem?_eq_some_iff.mp hi).1
  have hp : ps[i]? = some (ps[i]'(by omega)) := List.getElem?_eq_getElem (by omega)
  generalize ps[i]'(by omega) = p at hp
  have hm := List.mem_of_getElem? hp
  have hpD : p ≠ D := fun e => h6 (by rw [← e]; exact hm)
  refine ⟨p, ⟨ps, h1, hp⟩, h7 i p r hp hi, h4 p hm, hpD, ps, (upd_ne (Ne.symm hpD)).trans h1, by rw [List.length_set]; exact h2, h3, h4, h5, h6, fun j q x hq hx => ?_⟩
  rw [List.getElem?_set] at hx
  by_cases e : i = j
  · subst e
    rw [if_pos rfl, if_pos hlt] at hx
    rw [hp] at hq
    cases hq
    cases hx
    exact upd_same
  · rw [if_neg e] at hx
    have hqp : q ≠ p := fun z => e (by
      subst z
      have a := (List.getElem?_eq_some_iff.mp hp)
      have b := (List.getElem?_eq_some_iff.mp hq)
      exact (List.getElem_inj h3).mp (a.2.trans b.2.symm))
    rw [upd_ne hqp]
    exact h7 j q x hq hx
theorem map_ref_inj : ∀ {ps qs : List Addr}, ps.map V.ref = qs.map V.ref → ps = qs
  | [], [], _ => rfl
  | [], q :: qs, h => by cases h
  | p :: ps, [], h => by cases h
  | p :: ps, q :: qs, h => by
    rw [List.map_cons, List.map_cons] at h
    injection h with h1 h2
    injection h1 with h1
    rw [h1, map_ref_inj h2]
/-- a new list put behind the rows -/
theorem FRows.push {p : Addr} {r : List V} {ps : List Addr} (h1 : H D = some (.lst (ps.map V.ref))) (f : FRows H0 H D rows) (hp : H p = some (.lst r)) (h0 : H0 p = none) (hn : p ∉ ps) (hD : p ≠ D) : FRows H0 (upd H D (.lst (ps.map V.ref ++ [.ref p]))) D (rows ++ [r]) := by
  obtain ⟨ps', g1, h2, h3, h4, h5, h6, h7⟩ := f
  have e : ps' = ps := by
    rw [g1] at h1
    have h1 : ps'.map V.ref = ps.map V.ref := by
      have := Option.some.inj h1
      injection this
    exact map_ref_inj h1
  subst e
  refine ⟨ps' ++ [p], by rw [upd_same, List.map_append]; rfl, by rw [List.length_append, List.length_append, h2]; rfl, List.nodup_append.mpr ⟨h3, List.nodup_cons.mpr ⟨List.not_mem_nil, List.nodup_nil⟩, fun a ha b hb e => hn (by rw [List.mem_singleton.mp hb] at e; rw [← e]; exact ha)⟩,
    fun q hq => ?_, h5, fun hm => ?_, fun i q x hq hx => ?_⟩
  · rcases List.mem_append.mp hq with h | h
    · exact h4 q h
    · rw [List.mem_singleton.mp h]; exact h0
  · rcases List.mem_append.mp hm with h | h
    · exact h6 h
    · exact hD (List.mem_singleton.mp h).symm
  · have hq1 := (List.getElem?_eq_some_iff.mp hq).1
    rw [List.length_append] at hq1
    by_cases hlt : i < ps'.length
    · rw [List.getElem?_append_left hlt] at hq
      rw [List.getElem?_append_left (by omega)] at hx
      have hqD : q ≠ D := fun e => h6 (by rw [← e]; exact List.mem_of_getElem? hq)
      rw [upd_ne hqD]
      exact h7 i q x hq hx
    · have ei : i = ps'.length := by
        have : i < ps'.length + 1 := hq1
        omega
      subst ei
      rw [List.getElem?_append_right (Nat.le_refl _), Nat.sub_self] at hq
      rw [h2, List.getElem?_append_right (Nat.le_refl _), Nat.sub_self] at hx
      cases hq
      cases hx
      rw [upd_ne hD]
      exact hp
end
theorem line_of1 {n : Nat} (h : n ≤ 1000000) : n < sizeLine := by rw [sizeLine_eq]; omega
theorem w_tupAny {K : PySem.W.Frag} {H : Hp} {Q : VK} {b : Bool} {a : Addr} {ys : List V} (h : Sq b K H a ys) (q : ∀ p H', Same H H' → Sq false K H' p ys → Q (.ref p) H') : rTupS K [.ref a] H Q := by
  cases b with
  | true => exact w_tupL h fun p hp => q _ _ (Same.new hp) (Sq.tup upd_same)
  | false => exact w_tupT h (q _ _ (Same.refl _) h)
theorem w_catA {K : PySem.W.Frag} {H : Hp} {Q : VK} {a b : Addr} {xs ys : List V} (h1 : Sq false K H a xs) (h2 : Sq false K H b ys) (hz : xs.length + ys.length ≤ 1000000) (q : ∀ p H', Same H H' → Sq false K H' p (xs ++ ys) → Q (.ref p) H') : rCatA K (.ref a) (.ref b) H Q :=
  ⟨a, b, xs, ys, rfl, rfl, h1, h2, by rw [sizeLine_eq]; omega, fun e => q _ _ (Same.refl _) (by rw [e]; exact h2), fun _ e => q _ _ (Same.refl _) (by rw [e, List.append_nil]; exact h1), fun _ _ p hp => q _ _ (Same.new hp) (Sq.tup upd_same)⟩
theorem Fr.sqI {b : Bool} {K : PySem.W.Frag} {H H' : Hp} {t a : Addr} {xs : List V} (f : Fr t H H') (ht : ∃ C dx fs, H t = some (.ins C dx fs)) (h : Sq b K H a xs) : Sq b K H' a xs := by
  obtain ⟨C, dx, fs, ht⟩ := ht
  cases b with
  | true =>
    have h : SqL K H a xs := h
    rcases h with (h | ⟨o, h⟩) | h
    · exact .inl (.inl (f _ _ (fun e => by rw [e, ht] at h; cases h) h))
    · exact .inl (.inr ⟨o, f _ _ (fun e => by rw [e, ht] at h; cases h) h⟩)
    · exact .inr h
  | false =>
    have h : SqT K H a xs := h
    rcases h with (h | ⟨o, h⟩) | h
    · exact .inl (.inl (f _ _ (fun e => by rw [e, ht] at h; cases h) h))
    · exact .inl (.inr ⟨o, f _ _ (fun e => by rw [e, ht] at h; cases h) h⟩)
    · exact .inr h
/-- lists or tuples of lists or tuples of any values -/
def RRows (b1 b2 : Bool) (K : PySem.W.Frag) : Rep (List (List V)) := RSeq b1 K (RRw b2 K)
theorem RRows.mono {b1 b2 : Bool} {K : PySem.W.Frag} : RMono (RRows b1 b2 K) := RSeq.mono RRw.mono
theorem RRows.fr {b1 b2 : Bool} {K : PySem.W.Frag} {H H' : Hp} {t : Addr} {v : V} {rows : List (List V)} (f : Fr t H H') (ht : ∃ C dx fs, H t = some (.ins C dx fs)) (h : RRows b1 b2 K H v rows) : RRows b1 b2 K H' v rows := by
  obtain ⟨a, vs, e, h1, h2, h3⟩ := h
  exact ⟨a, vs, e, f.sqI ht h1, h2, fun i y x hy hx => by
    obtain ⟨p, e, hp⟩ := h3 i y x hy hx
    exact ⟨p, e, f.sqI ht hp⟩⟩
theorem RRows.get {b1 b2 : Bool} {K : PySem.W.Frag} {H : Hp} {v : V} {rows : List (List V)} {i : Nat} {r : List V} (h : RRows b1 b2 K H v rows) (hi : rows[i]? = some r) : ∃ a vs p, v = .ref a ∧ Sq b1 K H a vs ∧ vs.length = rows.length ∧ vs[i]? = some (.ref p) ∧ Sq b2 K H p r := by
  obtain ⟨a, vs, e, h1, h2, h3⟩ := h
  obtain ⟨y, hy, p, ep, hp⟩ := RSeq.get (R := RRw b2 K) h2 h3 hi
  subst ep
  exact ⟨a, vs, p, e, h1, h2, hy, hp⟩
theorem none_back {H H' : Hp} {p : Addr} (s : Same H H') (h : H' p = none) : H p = none := by
  cases e : H p with
  | none => rfl
  | some u => rw [s _ _ e] at h; cases h
section
variable {K : PySem.W.Frag} {σ : St} {H : Hp} {te : TE} {vs : List Nat} {Q : VK}
theorem FRows.nil {D : Addr} (hD : H D = none) : FRows H (upd H D (.lst [])) D [] := ⟨[], upd_same, rfl, List.nodup_nil, List.forall_mem_nil _, hD, List.not_mem_nil, fun i p r h => by simp at h⟩
theorem FRows.next {H0 H1 H2 : Hp} {D p : Addr} {rows : List (List V)} {r : List V} {acc : List V} (f : FRows H0 H1 D rows) (s0 : Same H0 H1) (e : H1 D = some (.lst acc)) (hp : H1 p = none) (s : Same H1 H2) (ep : H2 p = some (.lst r)) :
    H2 D = some (.lst acc) ∧ FRows H0 (upd H2 D (.lst (acc ++ [.ref p]))) D (rows ++ [r]) := by
  obtain ⟨ps, h1, h2, h3, h4, h5, h6, h7⟩ := id f
  have ea : acc = ps.map V.ref := by
    rw [h1] at e
    have e := Option.some.inj e
    injection e with e
    exact e.symm
  subst ea
  refine ⟨s _ _ e, (f.mono s).push (s _ _ h1) ep (none_back s0 hp) (fun hm => ?_) (fun e2 => by rw [e2, e] at hp; cases hp)⟩
  obtain ⟨q, hq1, hq2⟩ := List.mem_iff_getElem.mp hm
  have a1 : ps[q]? = some p := by rw [List.getElem?_eq_getElem hq1, hq2]
  have a3 := h7 q p _ a1 (List.getElem?_eq_getElem (by omega))
  rw [a3] at hp; cases hp
/-- a comprehension that gives new lists -/
theorem c_fresh {b : Bool} {a : Addr} {j : Nat} (rows : List (List V)) (xs : List V) (hx : Sq b K H a xs) (hl : rows.length = xs.length) (hz : xs.length < sizeLine) (hw : ∀ x : V, wipe ((wipe σ vs).set j (some x)) vs = wipe σ vs)
    (hs : ∀ (i : Nat) x r H1 (N : VK), i < xs.length → xs[i]? = some x → rows[i]? = some r → Same H H1 → (∀ p H2, H1 p = none → Same H1 H2 → H2 p = some (.lst r) → N (.ref p) H2) → te ((wipe σ vs).set j (some x)) H1 N)
    (k : ∀ D H', Same H H' → FRows H H' D rows → Q (.ref D) H') :
    ∃ a', V.ref a = .ref a' ∧ ((∃ xs, SqL K H a' xs) ∧ CompOk (Itl K a') (gName j) tYes te vs σ H Q ∨ (∃ xs, SqT K H a' xs) ∧ CompOk (Itt K a') (gName j) tYes te vs σ H Q) := by
  refine l_compGS (b := b) xs hz (fun D i acc H' => Same H H' ∧ FRows H H' D (rows.take i)) hx hw (fun D hD => ⟨Same.new hD, FRows.nil hD⟩) (fun D i acc H' st => st.1.sq hx) (fun i x H1 D acc NT NF hi hxi hD st e1 hal hT hF => ?_) (fun D H' ys hD st e hly => ?_)
  · obtain ⟨s1, f1⟩ := st
    have hri : rows[i]? = some (rows[i]'(by omega)) := List.getElem?_eq_getElem (by omega)
    show te _ H1 NT
    refine hs i x _ H1 NT hi hxi hri s1 fun p H2 hp s2 ep => ?_
    obtain ⟨e2, f2⟩ := f1.next s1 e1 hp s2 ep
    refine hT _ H2 e2 ⟨Same.mut (s1.trans s2) hD, ?_⟩
    rw [List.take_add_one, hri]
    exact f2
  · rw [← hl, List.take_length] at st
    exact k D H' st.1 st.2
end
theorem w_setV {H : Hp} {p : Addr} {xs : List V} {k : Int} {v : V} {N : Hp → Prop} (h : H p = some (.lst xs)) (h0 : 0 ≤ k) (h1 : k < xs.length) (q : N (upd H p (.lst (xs.set k.toNat v)))) : rSetL (.ref p) (.int k) v H N := by
  refine ⟨p, xs, k, k.toNat, rfl, rfl, h, ?_, q⟩
  unfold ixN
  rw [if_pos h0, if_pos h1]
theorem RRows.updL {K : PySem.W.Frag} {H : Hp} {q : Addr} {xs : List V} {o : HO} {v : V} {rows : List (List V)} (hq : H q = some (.lst xs)) (h : RRows false false K H v rows) : RRows false false K (upd H q o) v rows :=
  RTup.upd (RSeq.tup RRw.tup) RRows.mono (NTup.lst hq) h
end L2

namespace My
open PySem PySem.Spec PyProof.Rows L2
/-! ### sums of the first ones -/
def pre (ns : List Int) (j : Nat) : Int := (ns.take j).sum
theorem pre_zero (ns : List Int) : pre ns 0 = 0 := by simp [pre]
theorem pre_all (ns : List Int) : pre ns ns.length = ns.sum := by simp [pre]
theorem pre_succ {ns : List Int} {j : Nat} (h : j < ns.length) : pre ns (j + 1) = pre ns j + nth ns (j : Nat) := by
  have e : ns[j]? = some (nth ns (j : Nat)) := by
    rw [nth_nat, List.getD_eq_getElem?_getD, List.getElem?_eq_getElem h]
    rfl
  exact sum_take e
theorem pre_le {ns : List Int} (hn : ∀ x ∈ ns, (0 : Int) ≤ x) {i j : Nat} (h : i ≤ j) (hj : j ≤ ns.length) : pre ns i ≤ pre ns j := by
  induction j with
  | zero =>
    have : i = 0 := by omega
    subst this
    exact Int.le_refl _
  | succ j ih =>
    by_cases e : i = j + 1
    · subst e; exact Int.le_refl _
    · have h1 := ih (by omega) (by omega)
      have h2 := pre_succ (ns := ns) (j := j) (by omega)
      have h3 := hn _ (nth_mem (ns := ns) (i := (j : Nat)) (by omega) (by omega))
      omega

/-! ### one step of a reading; the closers -/
local macro_rules | `(tactic| walk_at "same") => `(tactic| first
  | assumption
  | exact Same.refl _
  | (refine Same.trans ?_ (Same.new (by assumption)); walk_at "same")
  | (refine Same.mut ?_ (by assumption); walk_at "same")
  | (refine Same.trans (H1 := _) ?_ (by assumption); walk_at "same"))
local macro_rules | `(tactic| walk_at "at") => `(tactic| first
  | assumption
  | exact upd_same
  | (refine Same.at ?_ (by assumption); walk_at "same"))
local macro_rules | `(tactic| walk_at "sq") => `(tactic| first
  | assumption
  | exact Sq.lst (by walk_at "at")
  | exact Sq.tup (by walk_at "at")
  | (refine Same.sq ?_ (by assumption); walk_at "same"))
local macro_rules | `(tactic| walk_at "lk") => `(tactic| first
  | exact lk_here
  | (refine lk_next (by decide +kernel) ?_; walk_at "lk")
  | exact rfl)
local macro_rules | `(tactic| walk_at "pf") => `(tactic| first
  | exact pf_here
  | (apply pf_next (by decide +kernel); walk_at "pf")
  | exact pf_nil)
local macro_rules | `(tactic| walk_at "num") => `(tactic| first
  | omega
  | assumption
  | (unfold CMul; omega)
  | (unfold CDiv; omega)
  | (unfold CPow; refine ⟨?_, ?_, ?_⟩ <;> first | omega | decide)
  | decide
  | (simp only [List.length_append, List.length_cons, List.length_nil, List.length_map, List.length_range] at *; omega))
local macro_rules | `(tactic| walk_at "vv") => `(tactic| first
  | exact tape_cells
  | exact tape_at
  | exact tape_great
  | exact tape_left
  | exact tape_seed
  | exact tape_turn
  | exact val_pos
  | (refine (val_neg (by decide +kernel)).trans ?_; walk_at "vv"))
local macro_rules | `(tactic| walk_at "pp") => `(tactic| first
  | exact tape_setAt
  | exact tape_setGreat
  | exact tape_setLeft
  | exact tape_setSeed
  | exact tape_setTurn)
local macro_rules | `(tactic| walk_at "dl") => `(tactic| first
  | exact tape_len
  | (show _ < 1000; simp only [List.length_cons, List.length_nil]; omega))
local macro_rules | `(tactic| walk_at "go1") => `(tactic| first
  | with_reducible refine w_var rfl ?_
  | with_reducible refine w_seq ?_
  | with_reducible refine w_asg ?_
  | with_reducible refine w_gName ?_
  | with_reducible refine w_nx ?_
  | with_reducible refine w_c ?_
  | with_reducible refine w_op ?_
  | with_reducible refine w_I0 ?_
  | with_reducible refine w_addI ?_
  | with_reducible refine w_cb ?_
  | with_reducible refine w_aCons ?_
  | with_reducible refine w_aNil ?_
  | with_reducible refine w_int1 ?_
  | with_reducible refine w_int1b ?_
  | ((with_reducible refine w_I ?_ ?_); (· walk_at "num"))
  | with_reducible refine w_test ?_
  | with_reducible refine w_exb ?_
  | with_reducible refine w_exi ?_
  | with_reducible refine w_ifS ?_
  | with_reducible refine w_tru ?_
  | with_reducible refine w_truB ?_
  | with_reducible refine w_eqI ?_
  | with_reducible refine w_neI ?_
  | with_reducible refine iteT ?_
  | with_reducible refine iteF ?_
  | with_reducible refine w_not ?_
  | with_reducible refine w_and ?_
  | with_reducible refine w_or ?_
  | with_reducible refine w_iteNT ?_
  | with_reducible refine w_iteNF ?_
  | with_reducible refine w_rt ?_
  | with_reducible refine w_ret ?_
  | with_reducible refine w_retN ?_
  | with_reducible refine w_next ?_
  | with_reducible refine w_drop ?_
  | with_reducible refine w_augI rfl ?_
  | with_reducible refine w_ipI ?_
  | with_reducible refine w_un ?_
  | with_reducible refine w_rU ?_
  | with_reducible refine w_abs ?_
  | with_reducible refine w_max2 ?_
  | with_reducible refine w_min2 ?_
  | with_reducible refine w_call ?_
  | with_reducible refine w_tB ?_
  | with_reducible refine w_bm ?_
  | ((with_reducible show tyV _ "list" (V.ref _) _ ∧ _); refine w_tyL (by walk_at "sq") ?_)
  | ((with_reducible show rIx _ (V.ref _) (V.int _) _ _); refine w_ixI (by walk_at "sq") (by walk_at "num") (by walk_at "num") ?_)
  | ((with_reducible show rSumS _ [V.ref _] _ _); refine w_sumI (by walk_at "sq") ?_)
  | ((with_reducible show rLenS _ [V.ref _] _ _); refine w_lenI (by walk_at "sq") ?_)
  | ((with_reducible show rLenS _ [V.ref _] _ _); refine w_lenS (by walk_at "sq") ?_)
  | with_reducible refine w_isNn ?_
  | with_reducible refine w_isNi ?_
  | with_reducible refine w_isNb ?_
  | with_reducible refine w_isNs ?_
  | with_reducible refine w_isNr ?_
  | with_reducible refine w_notNn ?_
  | with_reducible refine w_notNi ?_
  | with_reducible refine w_notNb ?_
  | with_reducible refine w_notNs ?_
  | with_reducible refine w_notNr ?_
  | with_reducible refine w_lstD ?_
  | with_reducible refine w_tupD ?_
  | with_reducible refine w_sl ?_
  | with_reducible refine w_noPart ?_
  | with_reducible refine w_part ?_
  | with_reducible refine w_for ?_
  | with_reducible refine w_iRng1 ?_
  | with_reducible refine w_iRng2 ?_
  | with_reducible refine w_iSeq ?_
  | with_reducible refine w_iEnumS ?_
  | with_reducible refine w_andV ?_
  | with_reducible refine w_orV ?_
  | with_reducible refine w_notV ?_
  | with_reducible refine w_ifE ?_
  | with_reducible refine w_brk ?_
  | with_reducible refine w_cont ?_
  | with_reducible refine w_gSub ?_
  | with_reducible refine w_lc ?_
  | with_reducible refine w_iZipS ?_
  | with_reducible refine w_fld ?_
  | ((with_reducible show ∃ a C dx fs v, V.ref _ = V.ref a ∧ _ ∧ Cls _ _ ∧ NoAttr _ _ _ ∧ _ ∧ _); refine w_fldAt (by walk_at "at") (by assumption) (by assumption) (by walk_at "lk") ?_)
  | with_reducible refine w_sfld ?_
  | ((with_reducible show ∃ a C dx fs, V.ref _ = V.ref a ∧ _ ∧ Cls _ _ ∧ NoAttr _ _ _ ∧ _ ∧ _); refine w_sfldAt (by walk_at "at") (by assumption) (by assumption) (by show _ < 1000; simp only [List.length_cons, List.length_nil]; omega) (by walk_at "pf") ?_)
  | with_reducible refine w_meth ?_
  | ((with_reducible show ∃ a dx fs, V.ref _ = V.ref a ∧ _ ∧ _ ∧ _); refine w_methAt (by walk_at "at") (by walk_at "lk") ?_)
  | with_reducible refine w_make ?_
  | with_reducible refine w_chain ?_
  | with_reducible refine w_dget ?_
  | ((with_reducible show ∃ a v, V.ref _ = V.ref a ∧ DGet _ a (V.str _) (some v) ∧ _); refine w_dgetAt (by walk_at "at") (by walk_at "vv") ?_)
  | ((with_reducible show ∃ a H4, V.ref _ = V.ref a ∧ DPut _ a (V.str _) _ H4 ∧ _); refine w_dputAt (by walk_at "at") (by walk_at "dl") (by walk_at "pp") ?_)
  | with_reducible refine w_dput ?_
  | with_reducible refine w_disp ?_
  | with_reducible refine w_prop ?_
  | ((with_reducible show ∃ a dx fs, V.ref _ = V.ref a ∧ _ ∧ _); refine w_propAt (by walk_at "at") ?_)
  | with_reducible refine w_lstRg ?_
  | with_reducible refine w_tupRg ?_
  | with_reducible refine w_rg1 ?_
  | with_reducible refine w_rg2 ?_
  | with_reducible refine w_augS ?_
  | ((with_reducible show rGetL (V.ref _) (V.int _) _ _); refine w_getI (by walk_at "at") (by walk_at "num") (by walk_at "num") ?_)
  | with_reducible refine w_pair0 ?_
  | with_reducible refine w_pair1 ?_
  | with_reducible refine w_bk ?_
  | with_reducible refine w_ct ?_)
local macro_rules | `(tactic| walk_at "go") => `(tactic| repeat walk_at "go1")

def topS (i : Nat) : Stmt := PySem.Challenge.pw_servedalone_k04_rules.main.body.getD i (.Pass ⟨0, 0, 0, 0⟩)
abbrev s_Rule___init__ : Stmt := inClass (topS 1) 0
abbrev s_Rule___eq__ : Stmt := inClass (topS 1) 1
abbrev s_Rule_after : Stmt := inClass (topS 1) 2
abbrev s_Rule_lets : Stmt := inClass (topS 1) 3
abbrev s_L_numbers : Stmt := topS 3
abbrev s_L_same : Stmt := topS 4
abbrev s_L_steps : Stmt := topS 5
abbrev s_L_after : Stmt := topS 6
abbrev s_law : Stmt := topS 7
theorem sc_Rule___init__ : FnScope ["self", "start", "steps", "row"] ["self", "start", "steps"] (defScope s_Rule___init__) := ⟨rfl, rfl, rfl, by decide +kernel, rfl, by decide +kernel, by decide +kernel⟩
theorem sc_Rule___eq__ : FnScope ["self", "other"] ["self", "other"] (defScope s_Rule___eq__) := ⟨rfl, rfl, rfl, by decide +kernel, rfl, by decide +kernel, by decide +kernel⟩
theorem sc_Rule_after : FnScope ["self", "text", "state", "letter"] ["self", "text"] (defScope s_Rule_after) := ⟨rfl, rfl, rfl, by decide +kernel, rfl, by decide +kernel, by decide +kernel⟩
theorem sc_Rule_lets : FnScope ["self", "text", "letter"] ["self", "text", "letter"] (defScope s_Rule_lets) := ⟨rfl, rfl, rfl, by decide +kernel, rfl, by decide +kernel, by decide +kernel⟩
theorem sc_L_numbers : FnScope ["_law_cell", "_law_at", "_law_many", "_law_great", "_law_rest", "_law_numbers_here", "_law_k", "_law_mixed"] ["_law_cell", "_law_at", "_law_many"] (defScope s_L_numbers) := ⟨rfl, rfl, rfl, by decide +kernel, rfl, by decide +kernel, by decide +kernel⟩
theorem sc_L_same : FnScope ["_law_actual", "_law_expected", "_law_k"] ["_law_actual", "_law_expected"] (defScope s_L_same) := ⟨rfl, rfl, rfl, by decide +kernel, rfl, by decide +kernel, by decide +kernel⟩
theorem sc_L_steps : FnScope ["_law_numbers_here", "_law_states", "_law_letters", "_law_steps_here", "_law_state", "_law_row", "_law_letter", "_law_seed", "_law_step"] ["_law_numbers_here", "_law_states", "_law_letters"] (defScope s_L_steps) := ⟨rfl, rfl, rfl, by decide +kernel, rfl, by decide +kernel, by decide +kernel⟩
theorem sc_L_after : FnScope ["_law_start", "_law_steps_here", "_law_text", "_law_state", "_law_letter"] ["_law_start", "_law_steps_here", "_law_text"] (defScope s_L_after) := ⟨rfl, rfl, rfl, by decide +kernel, rfl, by decide +kernel, by decide +kernel⟩
theorem sc_law : FnScope ["_law_script", "_law_at", "_law_numbers_here", "_law_states", "_law_letters", "_law_start", "_law_steps_here", "_law_kept", "_law_handed", "_law_rule", "_law_k", "_law_text", "_law_state", "_law_letter", "_law_other_start", "_law_other", "_law_step", "_law_same_here", "_law_second", "_law_row"] ["_law_script"] (defScope s_law) := ⟨rfl, rfl, rfl, by decide +kernel, rfl, by decide +kernel, by decide +kernel⟩

structure Txt (K : PySem.W.Frag) (mg : Str → Option Value) : Type where
  z_abs : mg "abs" = none
  z_bool : mg "bool" = none
  z_int : mg "int" = none
  z_isinstance : mg "isinstance" = none
  z_len : mg "len" = none
  z_list : mg "list" = none
  z_min : mg "min" = none
  z_range : mg "range" = none
  z_str : mg "str" = none
  z_tuple : mg "tuple" = none
  c_Rule : Addr
  C_Rule : Cls K c_Rule
  gc_Rule : mg "Rule" = some (.ref c_Rule)
  n_Rule_start : NoAttr K c_Rule "start"
  n_Rule_steps : NoAttr K c_Rule "steps"
  o_Rule : OwnC K c_Rule
  a_Rule___init__ : Addr
  d_Rule___init__ : FuncData
  F_Rule___init__ : Fun K "__init__" "Rule.__init__" s_Rule___init__ a_Rule___init__ d_Rule___init__
  b_Rule___init__ : Binds K d_Rule___init__ ["self", "start", "steps"] []
  M_Rule : Mk K c_Rule a_Rule___init__
  a_Rule___eq__ : Addr
  d_Rule___eq__ : FuncData
  F_Rule___eq__ : Fun K "__eq__" "Rule.__eq__" s_Rule___eq__ a_Rule___eq__ d_Rule___eq__
  b_Rule___eq__ : Binds K d_Rule___eq__ ["self", "other"] []
  m_Rule___eq__ : Meth K c_Rule "__eq__" a_Rule___eq__
  e_Rule : EqOf K c_Rule a_Rule___eq__
  a_Rule_after : Addr
  d_Rule_after : FuncData
  F_Rule_after : Fun K "after" "Rule.after" s_Rule_after a_Rule_after d_Rule_after
  b_Rule_after : Binds K d_Rule_after ["self", "text"] []
  m_Rule_after : Meth K c_Rule "after" a_Rule_after
  a_Rule_lets : Addr
  d_Rule_lets : FuncData
  F_Rule_lets : Fun K "lets" "Rule.lets" s_Rule_lets a_Rule_lets d_Rule_lets
  b_Rule_lets : Binds K d_Rule_lets ["self", "text", "letter"] []
  m_Rule_lets : Meth K c_Rule "lets" a_Rule_lets
  a_L_numbers : Addr
  d_L_numbers : FuncData
  F_L_numbers : Fun K "_law_numbers" "_law_numbers" s_L_numbers a_L_numbers d_L_numbers
  g_L_numbers : mg "_law_numbers" = some (.ref a_L_numbers)
  b_L_numbers : Binds K d_L_numbers ["_law_cell", "_law_at", "_law_many"] []
  a_L_same : Addr
  d_L_same : FuncData
  F_L_same : Fun K "_law_same" "_law_same" s_L_same a_L_same d_L_same
  g_L_same : mg "_law_same" = some (.ref a_L_same)
  b_L_same : Binds K d_L_same ["_law_actual", "_law_expected"] []
  a_L_steps : Addr
  d_L_steps : FuncData
  F_L_steps : Fun K "_law_steps" "_law_steps" s_L_steps a_L_steps d_L_steps
  g_L_steps : mg "_law_steps" = some (.ref a_L_steps)
  b_L_steps : Binds K d_L_steps ["_law_numbers_here", "_law_states", "_law_letters"] []
  a_L_after : Addr
  d_L_after : FuncData
  F_L_after : Fun K "_law_after" "_law_after" s_L_after a_L_after d_L_after
  g_L_after : mg "_law_after" = some (.ref a_L_after)
  b_L_after : Binds K d_L_after ["_law_start", "_law_steps_here", "_law_text"] []
  a_law : Addr
  d_law : FuncData
  F_law : Fun K "law" "law" s_law a_law d_law
  g_law : mg "law" = some (.ref a_law)
  b_law : Binds K d_law ["_law_script"] []

section
variable {P : Program} {w : World} {K : PySem.W.Frag} {mg : Str → Option Value} {base : Heap}
/-! ### _law_numbers: so many numbers from 0 to 999 -/
def sp_L_numbers (K : PySem.W.Frag) : Sp := fun vs H Q _ => ∃ (c t n : Int), vs = [.int c, .int t, .int n] ∧ 0 ≤ n ∧ n ≤ 1000 ∧
  ∀ (ns : List Int) (p : Addr) (H' : Hp), (ns.length : Int) = n → (∀ x ∈ ns, (0 : Int) ≤ x ∧ x < 1000) → Same H H' → H p = none → H' p = some (.lst (ns.map V.int)) → Q (.ref p) H'
theorem ok_L_numbers (T : Txt K mg) : FnOk P w K mg base CX0 1 T.a_L_numbers T.d_L_numbers ["_law_cell", "_law_at", "_law_many"] (sp_L_numbers K) := by
  refine T.F_L_numbers.ok sc_L_numbers (fun vs H Q E h => ?_) (fun cdv A outer s H vs Q E hr h => ?_)
  · obtain ⟨_, _, _, rfl, _⟩ := h
    rfl
  · obtain ⟨c, t, n, rfl, hn0, hn1, k⟩ := h
    refine ⟨_, (pss_cons (ps_set (i := 3) sc_L_numbers.nd rfl (Or.inl rfl) (pe_cmpR op_ge (pe_callB cr_abs (by rfl) T.z_abs (by decide +kernel) (pa_cons (pe_callTy cr_int1 (by rfl) T.z_int (by decide +kernel) (pa_cons (pv 0) pa_nil)) pa_nil)) (pe_op op_pow pe_int pe_int) (nomark _)))
      (pss_cons (ps_set (i := 4) sc_L_numbers.nd rfl (Or.inl rfl) (pe_op (k_addG (K := K) rfl) (pe_op op_mul pe_int (pe_callB cr_abs (by rfl) T.z_abs (by decide +kernel) (pa_cons (pe_callTy cr_int1 (by rfl) T.z_int (by decide +kernel) (pa_cons (pv 0) pa_nil)) pa_nil))) (pe_callTy cr_int1 (by rfl) T.z_int (by decide +kernel) (pa_cons (pe_cmpR op_lt (pv 0) pe_int (nomark _)) pa_nil))))
      (pss_cons (ps_set (i := 5) sc_L_numbers.nd rfl (Or.inl rfl) (pe_lst pa_nil))
      (pss_cons (ps_for PassesOwn.never rfl (pi_range1 rfl T.z_range (pa_cons (pv 2) pa_nil)) (pg_name (i := 6) sc_L_numbers.nd rfl (Or.inl rfl))
      (pss_one (ps_if (k_tru (K := K) rfl (pv 3) (by intro _; rfl)) (pss_cons (ps_expr (k_bm (K := K) rfl PySem.F.plainAttrs_list PySem.F.slot_list_append PySem.F.type_list_append mt_append (pv 5) (pa_cons (pe_op op_mod (pe_callTy cr_int1 (by rfl) T.z_int (by decide +kernel) (pa_cons (pv 4) pa_nil)) pe_int) pa_nil)))
      (pss_one (ps_set (i := 4) sc_L_numbers.nd rfl (Or.inl rfl) (pe_op op_fdiv (pv 4) pe_int)))) (pss_cons (ps_set (i := 7) sc_L_numbers.nd rfl (Or.inl rfl) (pe_op op_mod (pe_callTy cr_int1 (by rfl) T.z_int (by decide +kernel) (pa_cons (pe_op (k_addG (K := K) rfl) (pe_op (k_addG (K := K) rfl) (pe_op (k_addG (K := K) rfl) (pe_op op_mul (pv 4) pe_int) (pe_op op_mul (pv 1) pe_int)) (pe_op op_mul (pv 6) pe_int)) pe_int) pa_nil)) pe_int))
      (pss_cons (ps_set (i := 7) sc_L_numbers.nd rfl (Or.inl rfl) (pe_op op_mod (pe_callTy cr_int1 (by rfl) T.z_int (by decide +kernel) (pa_cons (pe_op (k_addG (K := K) rfl) (pe_op (k_addG (K := K) rfl) (pe_op op_mul (pv 7) (pv 7)) (pe_op op_mul (pv 6) pe_int)) pe_int) pa_nil)) pe_int))
      (pss_cons (ps_set (i := 7) sc_L_numbers.nd rfl (Or.inl rfl) (pe_op op_mod (pe_callTy cr_int1 (by rfl) T.z_int (by decide +kernel) (pa_cons (pe_op (k_addG (K := K) rfl) (pe_op (k_addG (K := K) rfl) (pe_op op_mul (pv 7) (pv 7)) (pe_op op_mul (pv 1) pe_int)) pe_int) pa_nil)) pe_int))
      (pss_one (ps_expr (k_bm (K := K) rfl PySem.F.plainAttrs_list PySem.F.slot_list_append PySem.F.type_list_append mt_append (pv 5) (pa_cons (pe_op op_mod (pe_callTy cr_int1 (by rfl) T.z_int (by decide +kernel) (pa_cons (pe_op op_fdiv (pv 7) pe_int) pa_nil)) pe_int) pa_nil))))))))))
      (pss_one (ps_ret (pv 5))))))), ?_⟩
    refine go_start (σ' := [some (.int c), some (.int t), some (.int n), none, none, none, none, none]) rfl ?_
    try dsimp only [cxOf, Cx.nox, Cx.wish]
    walk_at "go"
    refine ⟨Nat.zero_le _, fun l hl => ?_⟩
    walk_at "go"
    refine l_range (fun i σ H' => ∃ (g : Bool) (r : Int) (ns : List Int) (y6 y7 : Option V), σ = [some (.int c), some (.int t), some (.int n), some (.bl g), some (.int r), some (.ref l), y6, y7] ∧ ns.length = i ∧ (∀ x ∈ ns, (0 : Int) ≤ x ∧ x < 1000) ∧ Same H H' ∧ H' l = some (.lst (ns.map V.int)))
      (by omega) (by omega) ⟨_, _, [], none, none, rfl, rfl, List.forall_mem_nil _, Same.new hl, upd_same⟩ ?_ ?_
    · rintro i σ H' hi ⟨g, r, ns, y6, y7, rfl, hlen, hb, sm, hL⟩
      have hz : (ns.map V.int).length < sizeLine := by
        rw [List.length_map]
        exact small1000 (by omega)
      walk_at "go"
      refine w_iteB (fun hg => ?_) (fun hg => ?_)
      · walk_at "go"
        refine w_append hL hz ?_
        walk_at "go"
        refine ⟨g, _, ns ++ [_], _, _, rfl, by rw [List.length_append, hlen]; rfl, fun x hx => ?_, Same.mut sm hl, by rw [upd_same, List.map_append]; rfl⟩
        rcases List.mem_append.mp hx with h | h
        · exact hb x h
        · rw [List.mem_singleton.mp h]; omega
      · walk_at "go"
        refine w_append hL hz ?_
        walk_at "go"
        refine ⟨g, _, ns ++ [_], _, _, rfl, by rw [List.length_append, hlen]; rfl, fun x hx => ?_, Same.mut sm hl, by rw [upd_same, List.map_append]; rfl⟩
        rcases List.mem_append.mp hx with h | h
        · exact hb x h
        · rw [List.mem_singleton.mp h]; omega
    · rintro σ H' ⟨g, r, ns, y6, y7, rfl, hlen, hb, sm, hL⟩
      walk_at "go"
      exact k ns l H' (by omega) hb sm hl hL

/-! ### _law_same: True of the same data -/
def sp_L_same (K : PySem.W.Frag) (n : Nat) : Sp := fun vs H Q _ => ∃ x y : V, vs = [x, y] ∧ Sm K H n x y ∧ Q (.bl true) H
theorem same_step (T : Txt K mg) {n k : Nat} (G : FnOk P w K mg base CX0 k T.a_L_same T.d_L_same ["_law_actual", "_law_expected"] (fun vs H Q E => ∃ m, n = m + 1 ∧ sp_L_same K m vs H Q E)) :
    FnOk P w K mg base CX0 (k + 1) T.a_L_same T.d_L_same ["_law_actual", "_law_expected"] (sp_L_same K n) := by
  refine T.F_L_same.ok sc_L_same (fun vs H Q E h => ?_) (fun cdv A outer s H vs Q E hr h => ?_)
  · obtain ⟨_, _, rfl, _⟩ := h
    rfl
  · obtain ⟨x, y, rfl, hS, q⟩ := h
    refine ⟨_, (pss_cons (ps_if (pt_cmpR op_isNN (pv 1) pe_non (nomark _)) (pss_one (ps_ret (pe_cmpR op_isNN (pv 0) pe_non (nomark _)))) pss_nil)
      (pss_cons (ps_if (k_tru (K := K) rfl (pe_callB (k_isi (K := K) rfl) (by rfl) T.z_isinstance (by decide +kernel) (pa_cons (pv 1) (pa_cons (pe_bltn (v := .ty "str") (by rfl) T.z_str (by decide +kernel) rfl) pa_nil))) (by intro _; rfl)) (pss_one (ps_ret (pe_and (pe_callB (k_isi (K := K) rfl) (by rfl) T.z_isinstance (by decide +kernel) (pa_cons (pv 0) (pa_cons (pe_bltn (v := .ty "str") (by rfl) T.z_str (by decide +kernel) rfl) pa_nil))) (pe_one (pe_cmpR (k_eqG (K := K) rfl hr.units) (pv 0) (pv 1) (nomark _)))))) pss_nil)
      (pss_cons (ps_if (k_tru (K := K) rfl (pe_callB (k_isi (K := K) rfl) (by rfl) T.z_isinstance (by decide +kernel) (pa_cons (pv 1) (pa_cons (pe_bltn (v := .ty "bool") (by rfl) T.z_bool (by decide +kernel) rfl) pa_nil))) (by intro _; rfl)) (pss_one (ps_ret (pe_and (pe_callB (k_isi (K := K) rfl) (by rfl) T.z_isinstance (by decide +kernel) (pa_cons (pv 0) (pa_cons (pe_bltn (v := .ty "bool") (by rfl) T.z_bool (by decide +kernel) rfl) pa_nil))) (pe_one (pe_cmpR (k_eqG (K := K) rfl hr.units) (pv 0) (pv 1) (nomark _)))))) pss_nil)
      (pss_cons (ps_if (k_tru (K := K) rfl (pe_callB (k_isi (K := K) rfl) (by rfl) T.z_isinstance (by decide +kernel) (pa_cons (pv 1) (pa_cons (pe_bltn (v := .ty "int") (by rfl) T.z_int (by decide +kernel) rfl) pa_nil))) (by intro _; rfl)) (pss_one (ps_ret (pe_and (pe_callB (k_isi (K := K) rfl) (by rfl) T.z_isinstance (by decide +kernel) (pa_cons (pv 0) (pa_cons (pe_bltn (v := .ty "int") (by rfl) T.z_int (by decide +kernel) rfl) pa_nil))) (pe_and (pe_not (pe_callB (k_isi (K := K) rfl) (by rfl) T.z_isinstance (by decide +kernel) (pa_cons (pv 0) (pa_cons (pe_bltn (v := .ty "bool") (by rfl) T.z_bool (by decide +kernel) rfl) pa_nil)))) (pe_one (pe_cmpR (k_eqG (K := K) rfl hr.units) (pv 0) (pv 1) (nomark _))))))) pss_nil)
      (pss_cons (ps_if (PW.pt (pw_or (pt_not (k_tru (K := K) rfl (pe_callB (k_isi (K := K) rfl) (by rfl) T.z_isinstance (by decide +kernel) (pa_cons (pv 0) (pa_cons (pe_bltn (v := .ty "tuple") (by rfl) T.z_tuple (by decide +kernel) rfl) pa_nil))) (by intro _; rfl))) (pw_or1 (pt_cmpR (k_neG (K := K) rfl hr.units) (pe_callB (k_lenS (K := K) rfl) (by rfl) T.z_len (by decide +kernel) (pa_cons (pv 0) pa_nil)) (pe_callB (k_lenS (K := K) rfl) (by rfl) T.z_len (by decide +kernel) (pa_cons (pv 1) pa_nil)) (nomark _))))) (pss_one (ps_ret pe_bl)) pss_nil)
      (pss_cons (ps_for PassesOwn.never rfl (pi_range1 rfl T.z_range (pa_cons (pe_callB (k_lenS (K := K) rfl) (by rfl) T.z_len (by decide +kernel) (pa_cons (pv 1) pa_nil)) pa_nil)) (pg_name (i := 2) sc_L_same.nd rfl (Or.inl rfl))
      (pss_one (ps_if (pt_not (k_tru (K := K) rfl (pe_call G hr (by rfl) T.g_L_same T.F_L_same.kp T.b_L_same .nil pass0 (pa_cons (pe_ix (k_ix (K := K) rfl) (pv 0) (pv 2) (fun _ _ => rfl)) (pa_cons (pe_ix (k_ix (K := K) rfl) (pv 1) (pv 2) (fun _ _ => rfl)) pa_nil))) (by intro _; rfl))) (pss_one (ps_ret pe_bl)) pss_nil)))
      (pss_one (ps_ret pe_bl)))))))), ?_⟩
    refine go_start (σ' := [some x, some y, none]) rfl ?_
    try dsimp only [cxOf, Cx.nox, Cx.wish]
    have hflat : (x = y ∧ (x = .non ∨ (∃ b, x = .bl b) ∨ (∃ i, x = .int i) ∨ ∃ s, x = .str s)) ∨
        ∃ (m : Nat) (a a' : Addr) (k : Bool) (xs ys : List V), n = m + 1 ∧ x = .ref a ∧ y = .ref a' ∧ SqT K H a xs ∧ Sq k K H a' ys ∧ xs.length = ys.length ∧ ys.length ≤ 100000 ∧ ∀ (i : Nat) x' y', xs[i]? = some x' → ys[i]? = some y' → Sm K H m x' y' := by
      cases n with
      | zero => exact .inl hS
      | succ m =>
        rcases hS with h | ⟨a, a', k, xs, ys, h1, h2, h3, h4, h5, hz, h6⟩
        · exact .inl h
        · exact .inr ⟨m, a, a', k, xs, ys, rfl, h1, h2, h3, h4, h5, hz, h6⟩
    rcases hflat with ⟨rfl, rfl | ⟨b, rfl⟩ | ⟨i, rfl⟩ | ⟨z, rfl⟩⟩ | ⟨m, a, a', kd, xs, ys, rfl, rfl, rfl, hx, hy, hl, hz, hxy⟩
    · walk_at "go"
      exact q
    · walk_at "go"
      refine w_isi (tn := "bool") (b := false) (.base (.bl _)) (by decide +kernel) ?_
      walk_at "go"
      refine w_isi (tn := "bool") (b := true) (.base (.bl _)) (by decide +kernel) ?_
      walk_at "go"
      refine w_isi (tn := "bool") (b := true) (.base (.bl _)) (by decide +kernel) ?_
      walk_at "go"
      refine w_eqS rfl ?_
      rw [decide_eq_true rfl]
      exact q
    · walk_at "go"
      refine w_isi (tn := "int") (b := false) (.base (.int _)) (by decide +kernel) ?_
      walk_at "go"
      refine w_isi (tn := "int") (b := false) (.base (.int _)) (by decide +kernel) ?_
      walk_at "go"
      refine w_isi (tn := "int") (b := true) (.base (.int _)) (by decide +kernel) ?_
      walk_at "go"
      refine w_isi (tn := "int") (b := true) (.base (.int _)) (by decide +kernel) ?_
      walk_at "go"
      refine w_isi (tn := "int") (b := false) (.base (.int _)) (by decide +kernel) ?_
      walk_at "go"
      rw [decide_eq_true rfl]
      exact q
    · walk_at "go"
      refine w_isi (tn := "str") (b := true) (.base (.str _)) (by decide +kernel) ?_
      walk_at "go"
      refine w_isi (tn := "str") (b := true) (.base (.str _)) (by decide +kernel) ?_
      walk_at "go"
      refine w_eqS rfl ?_
      rw [decide_eq_true rfl]
      exact q
    · walk_at "go"
      have isi : ∀ {cn : String} {Q' : VK}, kitB (if kd then "list" else "tuple") cn = some false → Q' (.bl false) H → rIsi K [.ref a', .ty cn] H Q' := fun hk q' => by
        cases kd with
        | true => exact w_isi (tyx_lst hy) hk q'
        | false => exact w_isi (tyx_tup hy) hk q'
      refine isi (by cases kd <;> decide +kernel) ?_
      walk_at "go"
      refine isi (by cases kd <;> decide +kernel) ?_
      walk_at "go"
      refine isi (by cases kd <;> decide +kernel) ?_
      walk_at "go"
      refine w_isi (tn := "tuple") (b := true) (tyx_tup hx) (by decide +kernel) ?_
      walk_at "go"
      have hx' : Sq false K H a xs := hx
      walk_at "go"
      refine w_iteN (fun hc => absurd (show ((xs.length : Nat) : Int) = ys.length by rw [hl]) hc) (fun _ => ?_)
      walk_at "go"
      refine l_range (fun i σ H' => ∃ y2, σ = [some (.ref a), some (.ref a'), y2] ∧ H' = H) (by omega) (by omega) ⟨none, rfl, rfl⟩ ?_ ?_
      · rintro i σ H' hi ⟨y2, rfl, rfl⟩
        have hi2 : i < ys.length := by omega
        have ex : xs[i]? = some (xs[i]'(by omega)) := List.getElem?_eq_getElem (by omega)
        have ey : ys[i]? = some (ys[i]'hi2) := List.getElem?_eq_getElem hi2
        walk_at "go"
        refine w_ix hx' (atI_nat ex) ?_
        walk_at "go"
        refine w_ix hy (atI_nat ey) ?_
        walk_at "go"
        refine ⟨m, rfl, _, _, rfl, hxy i _ _ ex ey, ?_⟩
        walk_at "go"
        exact ⟨_, rfl, rfl⟩
      · rintro σ H' ⟨y2, rfl, rfl⟩
        walk_at "go"
        exact q
/-- of data no deeper than n, at a level of its own -/
theorem ok_L_same_at (T : Txt K mg) : ∀ n : Nat, FnOk P w K mg base CX0 (n + 1) T.a_L_same T.d_L_same ["_law_actual", "_law_expected"] (sp_L_same K n)
  | 0 => same_step T (k := 0) ⟨fun vs H Q E h => by obtain ⟨m, e, _⟩ := h; exact absurd e (by omega), fun A outer s H args us vs Q E hr he hb hv h => by obtain ⟨m, e, _⟩ := h; exact absurd e (by omega)⟩
  | n + 1 => same_step T ((ok_L_same_at T n).imp fun vs H Q E h => by
      obtain ⟨m, e, h⟩ := h
      have e2 : m = n := by omega
      subst e2
      exact h)

/-! ### rules: the code -/
def vO : Option Int → V
  | none => .non
  | some i => .int i
abbrev Steps := List (List (Option Int))
def rowsV (st : Steps) : List (List V) := st.map fun r => r.map vO
structure StepsOk (st : Steps) (n L : Nat) : Prop where
  len : st.length = n
  row : ∀ r ∈ st, r.length = L
  small : ∀ r ∈ st, ∀ q : Int, some q ∈ r → 0 ≤ q ∧ q < n
  n0 : 1 ≤ n
  n1 : n ≤ 100
  L0 : 1 ≤ L
  L1 : L ≤ 100
def stepR (st : Steps) (s : Option Int) (l : Int) : Option Int := s.bind fun q => (st.getD q.toNat []).getD l.toNat none
def afterR (st : Steps) (s : Option Int) (ls : List Int) : Option Int := ls.foldl (stepR st) s
theorem afterR_none {st : Steps} : ∀ ls : List Int, afterR st none ls = none
  | [] => rfl
  | _ :: r => afterR_none r
theorem afterR_take {st : Steps} {s : Option Int} {ls : List Int} {i : Nat} (hi : i < ls.length) : afterR st s (ls.take (i + 1)) = stepR st (afterR st s (ls.take i)) (nth ls (i : Nat)) := by
  unfold afterR
  rw [List.take_add_one, List.getElem?_eq_getElem hi, List.foldl_append, nth_nat, List.getD_eq_getElem?_getD, List.getElem?_eq_getElem hi]
  rfl
/-- what a step finds -/
theorem step_at {st : Steps} {n L : Nat} (ok : StepsOk st n L) {q l : Int} (q0 : 0 ≤ q) (q1 : q < n) (l0 : 0 ≤ l) (l1 : l < L) : ∃ r x, st[q.toNat]? = some r ∧ r ∈ st ∧ r[l.toNat]? = some x ∧ stepR st (some q) l = x ∧ ∀ q', x = some q' → 0 ≤ q' ∧ q' < n := by
  have hl := ok.len
  have h1 : st[q.toNat]? = some (st[q.toNat]'(by omega)) := List.getElem?_eq_getElem (by omega)
  generalize st[q.toNat]'(by omega) = r at h1
  have hm := List.mem_of_getElem? h1
  have hr := ok.row r hm
  have h2 : r[l.toNat]? = some (r[l.toNat]'(by omega)) := List.getElem?_eq_getElem (by omega)
  generalize r[l.toNat]'(by omega) = x at h2
  refine ⟨r, x, h1, hm, h2, ?_, fun q' e => ok.small r hm q' (by rw [← e]; exact List.mem_of_getElem? h2)⟩
  unfold stepR
  simp only [Option.bind_some, List.getD_eq_getElem?_getD, h1, Option.getD_some, h2]
theorem rowsV_at {st : Steps} {i : Nat} {r : List (Option Int)} (h : st[i]? = some r) : (rowsV st)[i]? = some (r.map vO) := by
  unfold rowsV
  rw [List.getElem?_map, h]
  rfl
theorem rowsV_len (st : Steps) : (rowsV st).length = st.length := by unfold rowsV; rw [List.length_map]
theorem vO_at {r : List (Option Int)} {j : Nat} {x : Option Int} (h : r[j]? = some x) : (r.map vO)[j]? = some (vO x) := by
  rw [List.getElem?_map, h]
  rfl
/-- steps[q][l], steps at v -/
theorem steps_look {b1 b2 : Bool} {K : PySem.W.Frag} {H : Hp} {v : V} {st : Steps} {n L : Nat} (ok : StepsOk st n L) (h : RRows b1 b2 K H v (rowsV st)) {q l : Int} (q0 : 0 ≤ q) (q1 : q < n) (l0 : 0 ≤ l) (l1 : l < L) :
    ∃ a vs p r, v = .ref a ∧ Sq b1 K H a vs ∧ atI vs q = some (.ref p) ∧ Sq b2 K H p r ∧ atI r l = some (vO (stepR st (some q) l)) ∧ ∀ q', stepR st (some q) l = some q' → 0 ≤ q' ∧ q' < n := by
  obtain ⟨r, x, h1, _, h2, h3, h4⟩ := step_at ok q0 q1 l0 l1
  obtain ⟨a, vs, p, e, hs, _, hv, hp⟩ := RRows.get h (rowsV_at h1)
  refine ⟨a, vs, p, _, e, hs, ?_, hp, ?_, by rw [h3]; exact h4⟩
  · rw [show q = ((q.toNat : Nat) : Int) by omega]
    exact atI_nat hv
  · rw [h3, show l = ((l.toNat : Nat) : Int) by omega]
    exact atI_nat (vO_at h2)
theorem afterR_small {st : Steps} {n L : Nat} (ok : StepsOk st n L) : ∀ (ls : List Int) (s : Option Int), (∀ q, s = some q → 0 ≤ q ∧ q < n) → (∀ l ∈ ls, 0 ≤ l ∧ l < L) → ∀ q, afterR st s ls = some q → 0 ≤ q ∧ q < n
  | [], s, hs, _, q, e => hs q e
  | l :: r, s, hs, hl, q, e => by
    refine afterR_small ok r (stepR st s l) (fun q' e' => ?_) (fun l' h => hl l' (List.mem_cons_of_mem _ h)) q e
    have hl' := hl l (List.mem_cons_self ..)
    cases s with
    | none => cases e'
    | some p =>
      obtain ⟨_, x, _, _, _, h3, h4⟩ := step_at ok (hs p rfl).1 (hs p rfl).2 hl'.1 hl'.2
      rw [h3] at e'
      exact h4 q' e'
def RuleF (s : Int) (at_ : Addr) : List (Str × V) := [("start", .int s), ("steps", .ref at_)]
def IsRule (K : PySem.W.Frag) (C : Addr) (H : Hp) (r : Addr) (s : Int) (st : Steps) : Prop := ∃ dx at_, H r = some (.ins C dx (RuleF s at_)) ∧ RRows false false K H (.ref at_) (rowsV st)
theorem rule_same {K : PySem.W.Frag} {C : Addr} {H H' : Hp} {r : Addr} {s : Int} {st : Steps} (sm : Same H H') (h : IsRule K C H r s st) : IsRule K C H' r s st := by
  obtain ⟨dx, a, h1, h2⟩ := h
  exact ⟨dx, a, sm _ _ h1, RRows.mono _ _ _ _ sm h2⟩
theorem rule_upd {K : PySem.W.Frag} {C : Addr} {H : Hp} {r q : Addr} {xs : List V} {o : HO} {s : Int} {st : Steps} (hq : H q = some (.lst xs)) (h : IsRule K C H r s st) : IsRule K C (upd H q o) r s st := by
  obtain ⟨dx, a, h1, h2⟩ := h
  exact ⟨dx, a, (upd_ne (fun e => by rw [e, hq] at h1; cases h1)).trans h1, h2.updL hq⟩
def sp_Rule___init__ (K : PySem.W.Frag) (C : Addr) : Sp := fun vs H Q _ => ∃ (r dx : Addr) (s : Int) (v : V) (b1 b2 : Bool) (st : Steps), vs = [.ref r, .int s, v] ∧ H r = some (.ins C dx []) ∧ RRows b1 b2 K H v (rowsV st) ∧ st.length ≤ 1000 ∧
  ∀ H', Fr r H H' → IsRule K C H' r s st → Q .non H'
theorem ok_Rule___init__ (T : Txt K mg) : FnOk P w K mg base CX0 1 T.a_Rule___init__ T.d_Rule___init__ ["self", "start", "steps"] (sp_Rule___init__ K T.c_Rule) := by
  refine T.F_Rule___init__.ok sc_Rule___init__ (fun vs H Q E h => ?_) (fun cdv A outer s H vs Q E hr h => ?_)
  · obtain ⟨_, _, _, _, _, _, _, rfl, _⟩ := h
    rfl
  · obtain ⟨r, dx, s0, v, b1, b2, st, rfl, h0, hS, hz, k⟩ := h
    have cF := T.C_Rule
    have n1 := T.n_Rule_start
    have n2 := T.n_Rule_steps
    refine ⟨_, (pss_cons (k_sfld (K := K) rfl (pv 0) (pv 1) rfl)
      (pss_one (k_sfld (K := K) rfl (pv 0) (pe_callTy (k_tupS (K := K) rfl) (by rfl) T.z_tuple (by decide +kernel) (pa_cons (pe_lc (own := [("row", 3)]) (g := gName 3) (tt := tYes) rfl sc_Rule___init__.nd (k_seqS (K := K) rfl (pv 2)) (blkOk_by (own := [("row", 3)]) (by kernel_rfl)) (fun _ _ _ _ _ => (pg_name (i := 3) sc_Rule___init__.nd rfl (by first | exact Or.inl rfl | exact Or.inr rfl))) (fun _ _ _ _ _ => pts_nil) (fun _ _ _ _ _ => (pe_callTy (k_tupS (K := K) rfl) (by rfl) T.z_tuple (by decide +kernel) (pa_cons (pv 3) pa_nil)))) pa_nil)) rfl))), ?_⟩
    refine go_start (σ' := [some (.ref r), some (.int s0), some v, none]) rfl ?_
    try dsimp only [cxOf, Cx.nox, Cx.wish]
    walk_at "go"
    have f1 : Fr r H (upd H r (.ins T.c_Rule dx [("start", .int s0)])) := (Fr.refl _ _).upd _
    have h1 : (upd H r (.ins T.c_Rule dx [("start", .int s0)])) r = some (.ins T.c_Rule dx [("start", .int s0)]) := upd_same
    have hS1 := hS.fr f1 ⟨_, _, _, h0⟩
    generalize upd H r (.ins T.c_Rule dx [("start", .int s0)]) = H1 at f1 h1 hS1 ⊢
    obtain ⟨a, xs, rfl, hx, hxl, hxr⟩ := id hS1
    rw [rowsV_len] at hxl
    refine c_rep (R := RRw false K) RRw.mono RRw.tup xs hx (rowsV st) (by rw [rowsV_len]; omega) (line_of1 (by omega)) (fun _ => rfl) (fun i x d H2 N hi hxi hd s2 hN => ?_) (fun D H2 ys hD s2 e2 hyl hyr => ?_)
    · obtain ⟨p, rfl, hp⟩ := hxr i x d hxi hd
      walk_at "go"
      refine w_tupAny (s2.sq hp) fun p' H3 s3 hp' => ?_
      walk_at "go"
      exact hN _ _ s3 ⟨p', rfl, hp'⟩
    walk_at "go"
    refine w_tupL (Sq.lst e2) fun t ht => ?_
    have s3 := Same.new (o := .tup ys) ht
    have et : (upd H2 t (.tup ys)) t = some (.tup ys) := upd_same
    generalize upd H2 t (.tup ys) = H3 at s3 et ⊢
    have s13 := s2.trans s3
    have h3 := s13 _ _ h1
    have hR : RRows false false K H3 (.ref t) (rowsV st) := ⟨t, ys, rfl, Sq.tup et, hyl, fun i y d a b => RRw.mono _ _ _ _ s3 (hyr i y d a b)⟩
    walk_at "go"
    have f4 : Fr r H3 (upd H3 r (.ins T.c_Rule dx (RuleF s0 t))) := (Fr.refl _ _).upd _
    exact k _ ((f1.trans (Fr.same s13)).trans f4) ⟨dx, t, upd_same, hR.fr f4 ⟨_, _, _, h3⟩⟩
def sp_Rule_after (K : PySem.W.Frag) (C : Addr) : Sp := fun vs H Q _ => ∃ (r tp : Addr) (s : Int) (st : Steps) (n L : Nat) (b : Bool) (ls : List Int), vs = [.ref r, .ref tp] ∧ IsRule K C H r s st ∧ StepsOk st n L ∧ 0 ≤ s ∧ s < n ∧ Sq b K H tp (ls.map V.int) ∧ (∀ l ∈ ls, 0 ≤ l ∧ l < L) ∧
  Q (vO (afterR st (some s) ls)) H
theorem ok_Rule_after (T : Txt K mg) : FnOk P w K mg base CX0 1 T.a_Rule_after T.d_Rule_after ["self", "text"] (sp_Rule_after K T.c_Rule) := by
  refine T.F_Rule_after.ok sc_Rule_after (fun vs H Q E h => ?_) (fun cdv A outer s H vs Q E hr h => ?_)
  · obtain ⟨_, _, _, _, _, _, _, _, rfl, _⟩ := h
    rfl
  · obtain ⟨r, tp, s0, st, n, L, b, ls, rfl, ⟨dx, at_, h0, hR⟩, ok, hs0, hs1, hT, hls, k⟩ := h
    unfold RuleF at h0
    have cF := T.C_Rule
    have n1 := T.n_Rule_start
    have n2 := T.n_Rule_steps
    refine ⟨_, (pss_cons (ps_set (i := 2) sc_Rule_after.nd rfl (Or.inl rfl) (k_fld (K := K) rfl (pv 0) rfl))
      (pss_cons (ps_for PassesOwn.never rfl (k_seqS (K := K) rfl (pv 1)) (pg_name (i := 3) sc_Rule_after.nd rfl (Or.inl rfl))
      (pss_cons (ps_if (pt_cmpR op_isNN (pv 2) pe_non (nomark _)) (pss_one (ps_ret pe_non)) pss_nil)
      (pss_one (ps_set (i := 2) sc_Rule_after.nd rfl (Or.inl rfl) (pe_ix (k_ix (K := K) rfl) (pe_ix (k_ix (K := K) rfl) (k_fld (K := K) rfl (pv 0) rfl) (pv 2) (fun _ _ => rfl)) (pv 3) (fun _ _ => rfl))))))
      (pss_one (ps_ret (pv 2))))), ?_⟩
    refine go_start (σ' := [some (.ref r), some (.ref tp), none, none]) rfl ?_
    try dsimp only [cxOf, Cx.nox, Cx.wish]
    walk_at "go"
    refine l_seq (b := b) (ls.map V.int) (fun i σ H' => ∃ y3, σ = [some (.ref r), some (.ref tp), some (vO (afterR st (some s0) (ls.take i))), y3] ∧ H' = H) hT ⟨none, rfl, rfl⟩ (fun i σ H' _ ⟨_, _, e⟩ => by rw [e]; exact hT) ?_ ?_
    · rintro i x σ H' hi hx ⟨y3, rfl, rfl⟩
      obtain ⟨rfl, hi1⟩ := vec_at hx
      have hli := hls _ (nth_mem (ns := ls) (i := ((i : Nat) : Int)) (by omega) (by omega))
      have e := afterR_take (st := st) (s := some s0) hi1
      have hq := afterR_small ok (ls.take i) (some s0) (fun q e => by cases e; exact ⟨hs0, hs1⟩) (fun l h => hls l (List.mem_of_mem_take h))
      have hsplit : afterR st (some s0) ls = afterR st (afterR st (some s0) (ls.take i)) (ls.drop i) := by
        unfold afterR
        rw [← List.foldl_append, List.take_append_drop]
      generalize afterR st (some s0) (ls.take i) = o at e hq hsplit ⊢
      rw [e]
      cases o with
      | none =>
        dsimp only [vO]
        walk_at "go"
        rw [hsplit, afterR_none] at k
        exact k
      | some q =>
        dsimp only [vO]
        have hq := hq q rfl
        obtain ⟨a, vs, p, rr, ea, hv, hat, hp, hat2, _⟩ := steps_look ok hR hq.1 hq.2 hli.1 hli.2
        cases ea
        walk_at "go"
        refine w_ix hv hat ?_
        walk_at "go"
        refine w_ix hp hat2 ?_
        walk_at "go"
        exact ⟨_, rfl, rfl⟩
    · rintro σ H' ⟨y3, rfl, rfl⟩
      rw [List.length_map, List.take_length]
      walk_at "go"
      exact k
def sp_Rule_lets (K : PySem.W.Frag) (C : Addr) : Sp := fun vs H Q _ => ∃ (r tp : Addr) (s l : Int) (st : Steps) (n L : Nat) (b : Bool) (ls : List Int), vs = [.ref r, .ref tp, .int l] ∧ IsRule K C H r s st ∧ StepsOk st n L ∧ 0 ≤ s ∧ s < n ∧ Sq b K H tp (ls.map V.int) ∧ (∀ l ∈ ls, 0 ≤ l ∧ l < L) ∧ ls.length ≤ 100000 ∧ 0 ≤ l ∧ l < L ∧
  ∀ H', Same H H' → Q (.bl (stepR st (afterR st (some s) ls) l).isSome) H'
theorem ok_Rule_lets (T : Txt K mg) : FnOk P w K mg base CX0 2 T.a_Rule_lets T.d_Rule_lets ["self", "text", "letter"] (sp_Rule_lets K T.c_Rule) := by
  refine T.F_Rule_lets.ok sc_Rule_lets (fun vs H Q E h => ?_) (fun cdv A outer s H vs Q E hr h => ?_)
  · obtain ⟨_, _, _, _, _, _, _, _, _, rfl, _⟩ := h
    rfl
  · obtain ⟨r, tp, s0, l, st, n, L, b, ls, rfl, hI, ok, hs0, hs1, hT, hls, hz, hl0, hl1, k⟩ := h
    have cF := T.C_Rule
    obtain ⟨dx, at_, h0, hR⟩ := id hI
    unfold RuleF at h0
    refine ⟨_, (pss_one (ps_ret (pe_cmpR op_notNN (pe_meth (pv 0) T.C_Rule T.m_Rule_after (ok_Rule_after T) (hr.mono (by decide)) T.b_Rule_after .nil pass0 (pa_cons (pe_op op_catA (pe_callTy (k_tupS (K := K) rfl) (by rfl) T.z_tuple (by decide +kernel) (pa_cons (pv 1) pa_nil)) (pe_tup (pa_cons (pv 2) pa_nil))) pa_nil)) pe_non (nomark _)))), ?_⟩
    refine go_start (σ' := [some (.ref r), some (.ref tp), some (.int l)]) rfl ?_
    try dsimp only [cxOf, Cx.nox, Cx.wish]
    walk_at "go"
    refine w_tupAny hT fun p1 H1 s1 hp1 => ?_
    walk_at "go"
    refine ⟨by show 1 ≤ sizeLine; decide, fun p2 hp2 => ?_⟩
    have s2 := Same.new (o := .tup [.int l]) hp2
    refine w_catA (s2.sq hp1) (Sq.tup (xs := [.int l]) upd_same) (by rw [List.length_map]; show ls.length + 1 ≤ _; omega) fun p3 H3 s3 hp3 => ?_
    walk_at "go"
    have e : ls.map V.int ++ [.int l] = (ls ++ [l]).map V.int := by rw [List.map_append]; rfl
    rw [e] at hp3
    have s03 := (s1.trans s2).trans s3
    refine ⟨r, p3, s0, st, n, L, false, ls ++ [l], rfl, rule_same s03 hI, ok, hs0, hs1, hp3, fun l' h => ?_, ?_⟩
    · rcases List.mem_append.mp h with h | h
      · exact hls l' h
      · rw [List.mem_singleton.mp h]; exact ⟨hl0, hl1⟩
    have e2 : afterR st (some s0) (ls ++ [l]) = stepR st (afterR st (some s0) ls) l := by
      unfold afterR
      rw [List.foldl_append]; rfl
    rw [e2]
    generalize stepR st (afterR st (some s0) ls) l = o at k ⊢
    cases o with
    | none =>
      dsimp only [vO]
      walk_at "go"
      exact k _ s03
    | some q =>
      dsimp only [vO]
      walk_at "go"
      exact k _ s03

/-! ### rules compared -/
def dO : Option Int → PyData
  | none => .none
  | some i => .int i
def wr (b : Bool) (ds : List PyData) : PyData := if b then .list ds else .tuple ds
def stepsD (b1 b2 : Bool) (st : Steps) : PyData := wr b1 (st.map fun r => wr b2 (r.map dO))
theorem dp_wr {K : PySem.W.Frag} {H : Hp} {b : Bool} {a : Addr} {xs : List V} {ds : List PyData} (h : Sq b K H a xs) (hd : DpAll K H xs ds) : Dp K H (.ref a) (wr b ds) := by
  cases b
  · exact .tup h hd
  · exact .lst h hd
theorem dpAll_O {K : PySem.W.Frag} {H : Hp} : ∀ r : List (Option Int), DpAll K H (r.map vO) (r.map dO)
  | [] => .nil
  | none :: r => .cons .non (dpAll_O r)
  | some i :: r => .cons (.int i) (dpAll_O r)
theorem dp_steps {b1 b2 : Bool} {K : PySem.W.Frag} {H : Hp} {v : V} {st : Steps} (h : RRows b1 b2 K H v (rowsV st)) : Dp K H v (stepsD b1 b2 st) := by
  obtain ⟨a, vs, e, hs, hl, hr⟩ := h
  subst e
  rw [rowsV_len] at hl
  refine dp_wr hs ?_
  refine dpAll_map (R := fun H v (r : List (Option Int)) => RRw b2 K H v (r.map vO)) (H := H) (f := fun r => wr b2 (r.map dO)) (fun v r hv => ?_) hl fun i y x h1 h2 => hr i y _ h1 (rowsV_at h2)
  obtain ⟨p, e, hp⟩ := hv
  subst e
  exact dp_wr hp (dpAll_O r)
theorem lay_O (r : List (Option Int)) : PyData.canLayAll0 (r.map dO) = true := canLayAll_map (f := dO) (fun o => by cases o <;> simp only [dO, PyData.canLay0]) r
theorem lay_wr {b : Bool} {ds : List PyData} (h : PyData.canLayAll0 ds = true) : (wr b ds).canLay0 = true := by
  cases b
  · show (PyData.tuple ds).canLay0 = true
    simp only [PyData.canLay0]; exact h
  · show (PyData.list ds).canLay0 = true
    simp only [PyData.canLay0]; exact h
theorem deep_wr {b : Bool} {ds : List PyData} {n : Nat} (h : PyData.depthAll ds ≤ n) : (wr b ds).depth ≤ n + 1 := by
  cases b
  · show (PyData.tuple ds).depth ≤ n + 1
    simp only [PyData.depth]; omega
  · show (PyData.list ds).depth ≤ n + 1
    simp only [PyData.depth]; omega
theorem lay_steps (b1 b2 : Bool) (st : Steps) : (stepsD b1 b2 st).canLay0 = true := lay_wr (canLayAll_map (f := fun r => wr b2 (r.map dO)) (fun r => lay_wr (lay_O r)) st)
theorem deep_steps (b1 b2 : Bool) (st : Steps) : (stepsD b1 b2 st).depth ≤ 2 :=
  deep_wr (depthAll_map (f := fun r => wr b2 (r.map dO)) (fun r => deep_wr (depthAll_map (f := dO) (fun o => by cases o <;> simp only [dO, PyData.depth] <;> exact Nat.le_refl _) r)) st)
theorem shaped_steps (b1 b2 : Bool) (st : Steps) : SeqAt.shaped (stepsD b1 b2 st) = true := by
  unfold SeqAt.shaped
  rw [lay_steps, decide_eq_true (Nat.le_trans (deep_steps b1 b2 st) (by decide))]
  rfl
theorem eqvAll_map {α : Type} [DecidableEq α] {f : α → PyData} (h : ∀ x y, PyData.eqv (f x) (f y) = decide (x = y)) : ∀ xs ys : List α, PyData.eqvAll (xs.map f) (ys.map f) = decide (xs = ys)
  | [], [] => by simp only [List.map_nil, PyData.eqvAll, decide_true]
  | [], y :: ys => by simp only [List.map_nil, List.map_cons, PyData.eqvAll]; simp
  | x :: xs, [] => by simp only [List.map_nil, List.map_cons, PyData.eqvAll]; simp
  | x :: xs, y :: ys => by
    simp only [List.map_cons, PyData.eqvAll, h x y, eqvAll_map h xs ys, List.cons.injEq]
    by_cases h1 : x = y <;> by_cases h2 : xs = ys <;> simp [h1, h2]
theorem eqv_wr {b : Bool} {ds es : List PyData} : PyData.eqv (wr b ds) (wr b es) = PyData.eqvAll ds es := by
  cases b
  · show PyData.eqv (.tuple ds) (.tuple es) = _
    simp only [PyData.eqv]
  · show PyData.eqv (.list ds) (.list es) = _
    simp only [PyData.eqv]
theorem eqv_O (x y : Option Int) : PyData.eqv (dO x) (dO y) = decide (x = y) := by
  cases x <;> cases y <;> simp only [dO, PyData.eqv] <;> simp
  rename_i a b
  by_cases h : a = b <;> simp [h]
theorem eqv_steps (b1 b2 : Bool) (st st' : Steps) : PyData.eqv (stepsD b1 b2 st) (stepsD b1 b2 st') = decide (st = st') := by
  unfold stepsD
  rw [eqv_wr]
  exact eqvAll_map (fun r r' => by rw [eqv_wr]; exact eqvAll_map eqv_O r r') st st'
def pairD (s : Int) (st : Steps) : PyData := .tuple [.int s, stepsD false false st]
theorem shaped_pair (s : Int) (st : Steps) : SeqAt.shaped (pairD s st) = true := by
  have h1 : (pairD s st).canLay0 = true := by
    unfold pairD
    simp only [PyData.canLay0, PyData.canLayAll0, lay_steps, Bool.and_self]
  have h2 : (pairD s st).depth ≤ 64 := by
    unfold pairD
    simp only [PyData.depth, PyData.depthAll]
    have := deep_steps false false st
    omega
  unfold SeqAt.shaped
  rw [h1, decide_eq_true h2]
  rfl
theorem eqv_pair (s s' : Int) (st st' : Steps) : PyData.eqv (pairD s st) (pairD s' st') = decide (s = s' ∧ st = st') := by
  unfold pairD
  simp only [PyData.eqv, PyData.eqvAll, eqv_steps]
  by_cases h1 : s = s' <;> by_cases h2 : st = st' <;> simp [h1, h2]
def sp_Rule___eq__ (K : PySem.W.Frag) (C : Addr) : Sp := fun vs H Q _ => ∃ (r : Addr) (s : Int) (st : Steps) (y : V), vs = [.ref r, y] ∧ IsRule K C H r s st ∧
  ((∃ (r2 : Addr) (s2 : Int) (st2 : Steps), y = .ref r2 ∧ IsRule K C H r2 s2 st2 ∧ ∀ H', Same H H' → Q (.bl (decide (s = s2 ∧ st = st2))) H') ∨
    ∃ n : String, TyX K H y (.type n) ∧ PySem.W.subIn K (.type n) (.ref C) = some false ∧ Q (.bl false) H)
theorem ok_Rule___eq__ (T : Txt K mg) : FnOk P w K mg base CX0 1 T.a_Rule___eq__ T.d_Rule___eq__ ["self", "other"] (sp_Rule___eq__ K T.c_Rule) := by
  refine T.F_Rule___eq__.ok sc_Rule___eq__ (fun vs H Q E h => ?_) (fun cdv A outer s H vs Q E hr h => ?_)
  · obtain ⟨_, _, _, _, rfl, _⟩ := h
    rfl
  · obtain ⟨r, s0, st, y, rfl, ⟨dx, at_, h0, hR⟩, h⟩ := h
    unfold RuleF at h0
    have cF := T.C_Rule
    have n1 := T.n_Rule_start
    have n2 := T.n_Rule_steps
    refine ⟨_, (pss_cons (ps_if (pt_not (k_tru (K := K) rfl (pe_callB (k_isi (K := K) rfl) (by rfl) T.z_isinstance (by decide +kernel) (pa_cons (pv 1) (pa_cons (pe_glob (v := .ref T.c_Rule) (by rfl) T.gc_Rule rfl) pa_nil))) (by intro _; rfl))) (pss_one (ps_ret pe_bl)) pss_nil)
      (pss_one (ps_ret (pe_cmpR (k_eqG (K := K) rfl hr.units) (pe_tup (pa_cons (k_fld (K := K) rfl (pv 0) rfl) (pa_cons (k_fld (K := K) rfl (pv 0) rfl) pa_nil))) (pe_tup (pa_cons (k_fld (K := K) rfl (pv 1) rfl) (pa_cons (k_fld (K := K) rfl (pv 1) rfl) pa_nil))) (nomark _))))), ?_⟩
    refine go_start (σ' := [some (.ref r), some y]) rfl ?_
    try dsimp only [cxOf, Cx.nox, Cx.wish]
    rcases h with ⟨r2, s2, st2, rfl, ⟨dx2, at2, h02, hR2⟩, k⟩ | ⟨n, ht, hsub, k⟩
    · unfold RuleF at h02
      walk_at "go"
      refine w_isOwn T.o_Rule cF h02 ?_
      walk_at "go"
      refine ⟨by show 2 ≤ sizeLine; decide, fun p1 hp1 => ?_⟩
      have s1 := Same.new (o := .tup [.int s0, .ref at_]) hp1
      have e1 : (upd H p1 (.tup [.int s0, .ref at_])) p1 = some (.tup [.int s0, .ref at_]) := upd_same
      generalize upd H p1 (.tup [.int s0, .ref at_]) = H1 at s1 e1 ⊢
      have h02 := s1 _ _ h02
      walk_at "go"
      refine ⟨by show 2 ≤ sizeLine; decide, fun p2 hp2 => ?_⟩
      have s2' := Same.new (o := .tup [.int s2, .ref at2]) hp2
      have e2 : (upd H1 p2 (.tup [.int s2, .ref at2])) p2 = some (.tup [.int s2, .ref at2]) := upd_same
      generalize upd H1 p2 (.tup [.int s2, .ref at2]) = H2 at s2' e2 ⊢
      have s12 := s1.trans s2'
      refine w_eqD (d := pairD s0 st) (e := pairD s2 st2) (.tup (SqT.of (s2' _ _ e1)) (.cons (.int _) (.cons (dp_steps (RRows.mono _ _ _ _ s12 hR)) .nil))) (.tup (SqT.of e2) (.cons (.int _) (.cons (dp_steps (RRows.mono _ _ _ _ s12 hR2)) .nil))) (shaped_pair _ _) (shaped_pair _ _) ?_
      rw [eqv_pair]
      exact k _ s12
    · walk_at "go"
      refine w_isNot T.o_Rule ht hsub ?_
      walk_at "go"
      exact k

/-! ### _law_steps, _law_after -/
theorem none_same {H H' : Hp} {p : Addr} (s : Same H H') (h : H' p = none) : H p = none := by
  cases e : H p with
  | none => rfl
  | some u => rw [s _ _ e] at h; cases h
def sp_L_steps (K : PySem.W.Frag) : Sp := fun vs H Q _ => ∃ (p : Addr) (ns : List Int) (n L : Nat), vs = [.ref p, .int n, .int L] ∧ H p = some (.lst (ns.map V.int)) ∧ 0 < ns.length ∧ 1 ≤ n ∧ n ≤ 100 ∧ 1 ≤ L ∧ L ≤ 100 ∧
  ∀ (st : Steps) (D : Addr) (H' : Hp), StepsOk st n L → Same H H' → FRows H H' D (rowsV st) → Q (.ref D) H'
theorem ok_L_steps (T : Txt K mg) : FnOk P w K mg base CX0 1 T.a_L_steps T.d_L_steps ["_law_numbers_here", "_law_states", "_law_letters"] (sp_L_steps K) := by
  refine T.F_L_steps.ok sc_L_steps (fun vs H Q E h => ?_) (fun cdv A outer s H vs Q E hr h => ?_)
  · obtain ⟨_, _, _, _, rfl, _⟩ := h
    rfl
  · obtain ⟨p, ns, n, L, rfl, hL, hnl, hn0, hn1, hL0, hL1, k⟩ := h
    refine ⟨_, (pss_cons (ps_set (i := 3) sc_L_steps.nd rfl (Or.inl rfl) (pe_lst pa_nil))
      (pss_cons (ps_for PassesOwn.never rfl (pi_range1 rfl T.z_range (pa_cons (pv 1) pa_nil)) (pg_name (i := 4) sc_L_steps.nd rfl (Or.inl rfl))
      (pss_cons (ps_set (i := 5) sc_L_steps.nd rfl (Or.inl rfl) (pe_lst pa_nil))
      (pss_cons (ps_for PassesOwn.never rfl (pi_range1 rfl T.z_range (pa_cons (pv 2) pa_nil)) (pg_name (i := 6) sc_L_steps.nd rfl (Or.inl rfl))
      (pss_cons (ps_set (i := 7) sc_L_steps.nd rfl (Or.inl rfl) (pe_ix (k_ix (K := K) rfl) (pv 0) (pe_op op_mod (pe_callTy cr_int1 (by rfl) T.z_int (by decide +kernel) (pa_cons (pe_op (k_addG (K := K) rfl) (pe_op (k_addG (K := K) rfl) pe_int (pe_op op_mul (pv 4) (pv 2))) (pv 6)) pa_nil)) (pe_callB (k_lenS (K := K) rfl) (by rfl) T.z_len (by decide +kernel) (pa_cons (pv 0) pa_nil))) (fun _ _ => rfl)))
      (pss_cons (ps_set (i := 8) sc_L_steps.nd rfl (Or.inl rfl) (pe_op op_mod (pe_callTy cr_int1 (by rfl) T.z_int (by decide +kernel) (pa_cons (pv 7) pa_nil)) (pv 1)))
      (pss_cons (ps_if (pt_cmpR (k_eqG (K := K) rfl hr.units) (pe_op op_mod (pe_callTy cr_int1 (by rfl) T.z_int (by decide +kernel) (pa_cons (pe_op op_fdiv (pv 7) pe_int) pa_nil)) pe_int) pe_int (nomark _)) (pss_one (ps_set (i := 8) sc_L_steps.nd rfl (Or.inl rfl) pe_non)) pss_nil)
      (pss_one (ps_expr (k_bm (K := K) rfl PySem.F.plainAttrs_list PySem.F.slot_list_append PySem.F.type_list_append mt_append (pv 5) (pa_cons (pv 8) pa_nil))))))))
      (pss_one (ps_expr (k_bm (K := K) rfl PySem.F.plainAttrs_list PySem.F.slot_list_append PySem.F.type_list_append mt_append (pv 3) (pa_cons (pv 5) pa_nil)))))))
      (pss_one (ps_ret (pv 3))))), ?_⟩
    refine go_start (σ' := [some (.ref p), some (.int n), some (.int L), none, none, none, none, none, none]) rfl ?_
    try dsimp only [cxOf, Cx.nox, Cx.wish]
    walk_at "go"
    refine ⟨Nat.zero_le _, fun D hD => ?_⟩
    have s1 := Same.new (o := .lst []) hD
    have F1 : FRows H (upd H D (.lst [])) D (rowsV []) := ⟨[], upd_same, rfl, List.nodup_nil, List.forall_mem_nil _, hD, List.not_mem_nil, fun i p r h => by simp at h⟩
    generalize upd H D (.lst []) = H1 at s1 F1 ⊢
    walk_at "go"
    refine l_range (fun i σ H' => ∃ (y4 y5 y6 y7 y8 : Option V) (st : Steps), σ = [some (.ref p), some (.int n), some (.int L), some (.ref D), y4, y5, y6, y7, y8] ∧ st.length = i ∧ (∀ r ∈ st, r.length = L) ∧ (∀ r ∈ st, ∀ q : Int, some q ∈ r → 0 ≤ q ∧ q < n) ∧ Same H H' ∧ FRows H H' D (rowsV st))
      (by omega) (by omega) ⟨none, none, none, none, none, [], rfl, rfl, List.forall_mem_nil _, List.forall_mem_nil _, s1, F1⟩ ?_ ?_
    · rintro i σ H2 hi ⟨y4, y5, y6, y7, y8, st, rfl, hst, hrow, hsm, s2, F2⟩
      walk_at "go"
      refine ⟨Nat.zero_le _, fun R hR => ?_⟩
      have s3 := Same.new (o := .lst []) hR
      have e3 : (upd H2 R (.lst [])) R = some (.lst (([] : List (Option Int)).map vO)) := upd_same
      generalize upd H2 R (.lst []) = H3 at s3 e3 ⊢
      walk_at "go"
      refine l_range (fun j σ H' => ∃ (y6 y7 y8 : Option V) (r : List (Option Int)), σ = [some (.ref p), some (.int n), some (.int L), some (.ref D), some (.int (i : Nat)), some (.ref R), y6, y7, y8] ∧ r.length = j ∧ (∀ q : Int, some q ∈ r → 0 ≤ q ∧ q < n) ∧ Same H2 H' ∧ H' R = some (.lst (r.map vO)))
        (by omega) (by omega) ⟨_, _, _, [], rfl, rfl, fun q h => absurd h List.not_mem_nil, s3, e3⟩ ?_ ?_
      · rintro j σ H4 hj ⟨y6, y7, y8, r, rfl, hr', hq, s4, e4⟩
        have hL4 := (s2.trans s4) _ _ hL
        have hge : ∀ z : Int, 0 ≤ z % (ns.length : Int) ∧ z % (ns.length : Int) < ns.length := fun z => ⟨Int.emod_nonneg _ (by omega), Int.emod_lt_of_pos _ (by omega)⟩
        have h1 := hge (10 + ((i : Nat) : Int) * (L : Nat) + ((j : Nat) : Int))
        walk_at "go"
        have hp2 := hge (10 + ((i : Nat) : Int) * (L : Nat) + ((j : Nat) : Int))
        have hsd : ∀ z : Int, 0 ≤ z % (n : Int) ∧ z % (n : Int) < n := fun z => ⟨Int.emod_nonneg _ (by omega), Int.emod_lt_of_pos _ (by omega)⟩
        have h2 := hsd (nth ns ((10 + ((i : Nat) : Int) * (L : Nat) + ((j : Nat) : Int)) % (ns.length : Int)))
        have hrl : ∀ o : Option Int, r.map vO ++ [vO o] = (r ++ [o]).map vO := fun o => by rw [List.map_append]; rfl
        have fin : ∀ (o : Option Int) (y7 y8 : Option V), (∀ q, o = some q → 0 ≤ q ∧ q < (n : Int)) → ∃ (y6 y7' y8' : Option V) (r' : List (Option Int)), [some (V.ref p), some (.int n), some (.int L), some (.ref D), some (.int (i : Nat)), some (.ref R), some (.int (j : Nat)), y7, y8] = [some (V.ref p), some (.int n), some (.int L), some (.ref D), some (.int (i : Nat)), some (.ref R), y6, y7', y8'] ∧ r'.length = j + 1 ∧ (∀ q : Int, some q ∈ r' → 0 ≤ q ∧ q < n) ∧ Same H2 (upd H4 R (.lst (r.map vO ++ [vO o]))) ∧ (upd H4 R (.lst (r.map vO ++ [vO o]))) R = some (.lst (r'.map vO)) := fun o y7 y8 ho =>
          ⟨_, _, _, r ++ [o], rfl, by rw [List.length_append, hr']; rfl, fun q hq' => by
            rcases List.mem_append.mp hq' with h | h
            · exact hq q h
            · exact ho q (List.mem_singleton.mp h).symm, Same.mut s4 hR, by rw [upd_same, hrl]⟩
        have hz : (r.map vO).length < sizeLine := line_of1 (by rw [List.length_map]; omega)
        refine w_iteD (fun _ => ?_) (fun _ => ?_)
        · walk_at "go"
          refine w_append e4 hz ?_
          walk_at "go"
          exact fin none _ _ (fun q h => by cases h)
        · walk_at "go"
          refine w_append e4 hz ?_
          walk_at "go"
          exact fin (some _) _ _ (fun q h => by cases h; exact h2)
      · rintro σ H4 ⟨y6, y7, y8, r, rfl, hr', hq, s4, e4⟩
        have F4 := F2.mono s4
        obtain ⟨ps, g1, g2, g3, g4, g5, g6, g7⟩ := id F2
        have e5 := s4 _ _ g1
        have hRn : R ∉ ps := fun hm => by
          obtain ⟨q, hq1, hq2⟩ := List.mem_iff_getElem.mp hm
          have a1 : ps[q]? = some R := by rw [List.getElem?_eq_getElem hq1, hq2]
          rw [rowsV_len] at g2
          have a2 : (rowsV st)[q]? = some ((st[q]'(by omega)).map vO) := rowsV_at (List.getElem?_eq_getElem (by omega))
          have a3 := g7 q R _ a1 a2
          rw [a3] at hR; cases hR
        have hRD : R ≠ D := fun e => by rw [e, g1] at hR; cases hR
        walk_at "go"
        refine w_append e5 (line_of1 (by rw [List.length_map, g2, rowsV_len]; omega)) ?_
        walk_at "go"
        have hpush := F4.push e5 e4 (none_same s2 hR) hRn hRD
        refine ⟨_, _, _, _, _, st ++ [r], rfl, by rw [List.length_append, hst]; rfl, fun x hx => ?_, fun x hx q hq' => ?_, Same.mut (s2.trans s4) g5, ?_⟩
        · rcases List.mem_append.mp hx with h | h
          · exact hrow x h
          · rw [List.mem_singleton.mp h]; omega
        · rcases List.mem_append.mp hx with h | h
          · exact hsm x h q hq'
          · rw [List.mem_singleton.mp h] at hq'; exact hq q hq'
        · have e : rowsV (st ++ [r]) = rowsV st ++ [r.map vO] := by unfold rowsV; rw [List.map_append]; rfl
          rw [e]
          exact hpush
    · rintro σ H2 ⟨y4, y5, y6, y7, y8, st, rfl, hst, hrow, hsm, s2, F2⟩
      walk_at "go"
      exact k st D _ ⟨by omega, hrow, hsm, hn0, hn1, hL0, hL1⟩ s2 F2
def sp_L_after (K : PySem.W.Frag) : Sp := fun vs H Q _ => ∃ (s : Int) (v : V) (st : Steps) (n L : Nat) (b b1 b2 : Bool) (tp : Addr) (ls : List Int), vs = [.int s, v, .ref tp] ∧ RRows b1 b2 K H v (rowsV st) ∧ StepsOk st n L ∧ 0 ≤ s ∧ s < n ∧ Sq b K H tp (ls.map V.int) ∧ (∀ l ∈ ls, 0 ≤ l ∧ l < L) ∧
  Q (vO (afterR st (some s) ls)) H
theorem ok_L_after (T : Txt K mg) : FnOk P w K mg base CX0 1 T.a_L_after T.d_L_after ["_law_start", "_law_steps_here", "_law_text"] (sp_L_after K) := by
  refine T.F_L_after.ok sc_L_after (fun vs H Q E h => ?_) (fun cdv A outer s H vs Q E hr h => ?_)
  · obtain ⟨_, _, _, _, _, _, _, _, _, _, rfl, _⟩ := h
    rfl
  · obtain ⟨s0, v, st, n, L, b, b1, b2, tp, ls, rfl, hR, ok, hs0, hs1, hT, hls, k⟩ := h
    refine ⟨_, (pss_cons (ps_set (i := 3) sc_L_after.nd rfl (Or.inl rfl) (pv 0))
      (pss_cons (ps_for PassesOwn.never rfl (k_seqS (K := K) rfl (pv 2)) (pg_name (i := 4) sc_L_after.nd rfl (Or.inl rfl))
      (pss_one (ps_if (pt_cmpR op_notNN (pv 3) pe_non (nomark _)) (pss_one (ps_set (i := 3) sc_L_after.nd rfl (Or.inl rfl) (pe_ix (k_ix (K := K) rfl) (pe_ix (k_ix (K := K) rfl) (pv 1) (pv 3) (fun _ _ => rfl)) (pv 4) (fun _ _ => rfl)))) pss_nil)))
      (pss_one (ps_ret (pv 3))))), ?_⟩
    refine go_start (σ' := [some (.int s0), some v, some (.ref tp), none, none]) rfl ?_
    try dsimp only [cxOf, Cx.nox, Cx.wish]
    walk_at "go"
    refine l_seq (b := b) (ls.map V.int) (fun i σ H' => ∃ y4, σ = [some (.int s0), some v, some (.ref tp), some (vO (afterR st (some s0) (ls.take i))), y4] ∧ H' = H) hT ⟨none, rfl, rfl⟩ (fun i σ H' _ ⟨_, _, e⟩ => by rw [e]; exact hT) ?_ ?_
    · rintro i x σ H' hi hx ⟨y4, rfl, rfl⟩
      obtain ⟨rfl, hi1⟩ := vec_at hx
      have hli := hls _ (nth_mem (ns := ls) (i := ((i : Nat) : Int)) (by omega) (by omega))
      have e := afterR_take (st := st) (s := some s0) hi1
      have hq := afterR_small ok (ls.take i) (some s0) (fun q e => by cases e; exact ⟨hs0, hs1⟩) (fun l h => hls l (List.mem_of_mem_take h))
      generalize afterR st (some s0) (ls.take i) = o at e hq ⊢
      rw [e]
      cases o with
      | none =>
        dsimp only [vO]
        walk_at "go"
        exact ⟨_, rfl, rfl⟩
      | some q =>
        dsimp only [vO]
        have hq := hq q rfl
        obtain ⟨a, vs, p, rr, ea, hv, hat, hp, hat2, _⟩ := steps_look ok hR hq.1 hq.2 hli.1 hli.2
        cases ea
        walk_at "go"
        refine w_ix hv hat ?_
        walk_at "go"
        refine w_ix hp hat2 ?_
        walk_at "go"
        exact ⟨_, rfl, rfl⟩
    · rintro σ H' ⟨y4, rfl, rfl⟩
      rw [List.length_map, List.take_length]
      walk_at "go"
      exact k

/-! ### the law -/
theorem sm_O {K : PySem.W.Frag} {H : Hp} {n : Nat} (o : Option Int) : Sm K H n (vO o) (vO o) := by
  cases n <;> cases o
  · exact ⟨rfl, .inl rfl⟩
  · exact ⟨rfl, .inr (.inr (.inl ⟨_, rfl⟩))⟩
  · exact .inl ⟨rfl, .inl rfl⟩
  · exact .inl ⟨rfl, .inr (.inr (.inl ⟨_, rfl⟩))⟩
theorem sm_bl {K : PySem.W.Frag} {H : Hp} {n : Nat} (b : Bool) : Sm K H n (.bl b) (.bl b) := by
  cases n
  · exact ⟨rfl, .inr (.inl ⟨_, rfl⟩)⟩
  · exact .inl ⟨rfl, .inr (.inl ⟨_, rfl⟩)⟩
theorem sm_rows {K : PySem.W.Frag} {H : Hp} {n : Nat} {x y : V} {st : Steps} {m L : Nat} (ok : StepsOk st m L) (h1 : RRows false false K H x (rowsV st)) (h2 : RRows false false K H y (rowsV st)) : Sm K H (n + 2) x y := by
  have hl := ok.len
  have hm := ok.n1
  refine RSeq.sm (by rw [rowsV_len]; omega) (fun x y d hd hx hy => ?_) h1 h2
  obtain ⟨r, hr, rfl⟩ := List.mem_map.mp hd
  have hrl := ok.row r hr
  have hL := ok.L1
  obtain ⟨p, rfl, hp⟩ := hx
  obtain ⟨q, rfl, hq⟩ := hy
  refine .inr ⟨p, q, false, _, _, rfl, rfl, hp, hq, rfl, by rw [List.length_map]; omega, fun i x' y' e1 e2 => ?_⟩
  rw [e1] at e2
  cases e2
  rw [List.getElem?_map] at e1
  cases e : r[i]? with
  | none => rw [e] at e1; cases e1
  | some o => rw [e] at e1; cases e1; exact sm_O o
theorem flat_rep {α : Type} (k : Nat) (x : α) : (List.replicate k [x]).flatten = List.replicate k x := by
  induction k with
  | zero => rfl
  | succ k ih => rw [List.replicate_succ, List.flatten_cons, ih, List.replicate_succ]; rfl
def txtOf (ns : List Int) (L : Int) (n : Nat) : List Int := (List.range n).map fun k => nth ns ((20 + 3 * ((k : Nat) : Int)) % 82) % L
theorem txtOf_len (ns : List Int) (L : Int) (n : Nat) : (txtOf ns L n).length = n := by unfold txtOf; rw [List.length_map, List.length_range]
theorem txtOf_in {ns : List Int} {L : Nat} {n : Nat} (hL : 0 < L) : ∀ l ∈ txtOf ns L n, 0 ≤ l ∧ l < L := fun l hl => by
  obtain ⟨k, _, rfl⟩ := List.mem_map.mp hl
  exact ⟨Int.emod_nonneg _ (by omega), Int.emod_lt_of_pos _ (by omega)⟩
theorem txtOf_nth {ns : List Int} {L : Int} {n i : Nat} (hi : i < n) : nth (txtOf ns L n) (i : Int) = nth ns ((20 + 3 * ((i : Nat) : Int)) % 82) % L := by
  unfold txtOf
  rw [nth_nat, List.getD_eq_getElem?_getD, List.getElem?_map, List.getElem?_eq_getElem (by rw [List.length_range]; exact hi), List.getElem_range]
  rfl
def sp_law (K : PySem.W.Frag) : Sp := fun vs H Q _ => ∃ (a : Addr) (ns : List Int), vs = [.ref a] ∧ SqL K H a (ns.map V.int) ∧ ns.length ≤ 63 ∧ ∀ H', Q (.bl true) H'
theorem ok_law (T : Txt K mg) : FnOk P w K mg base CX0 4 T.a_law T.d_law ["_law_script"] (sp_law K) := by
  refine T.F_law.ok sc_law (fun vs H Q E h => ?_) (fun cdv A outer s H vs Q E hr h => ?_)
  · obtain ⟨_, _, rfl, _⟩ := h
    rfl
  · obtain ⟨a, sc, rfl, hS0, hlen, k⟩ := h
    have hS : Sq true K H a (sc.map V.int) := hS0
    have cF := T.C_Rule
    have n1 := T.n_Rule_start
    have n2 := T.n_Rule_steps
    refine ⟨_, (pss_cons (ps_for PassesOwn.never rfl (pi_range1 rfl T.z_range (pa_cons (pe_callB (cr_min2 rfl) (by rfl) T.z_min (by decide +kernel) (pa_cons (pe_callB (k_lenS (K := K) rfl) (by rfl) T.z_len (by decide +kernel) (pa_cons (pv 0) pa_nil)) (pa_cons pe_int pa_nil))) pa_nil)) (pg_name (i := 1) sc_law.nd rfl (Or.inl rfl))
      (pss_cons (ps_set (i := 2) sc_law.nd rfl (Or.inr rfl) (pe_call (ok_L_numbers T) (hr.mono (by decide)) (by rfl) T.g_L_numbers T.F_L_numbers.kp T.b_L_numbers .nil pass0 (pa_cons (pe_ix (k_ix (K := K) rfl) (pv 0) (pv 1) (fun _ _ => rfl)) (pa_cons (pv 1) (pa_cons pe_int pa_nil)))))
      (pss_cons (ps_set (i := 3) sc_law.nd rfl (Or.inl rfl) (pe_op (k_addG (K := K) rfl) pe_int (pe_op op_mod (pe_callTy cr_int1 (by rfl) T.z_int (by decide +kernel) (pa_cons (pe_ix (k_ix (K := K) rfl) (pv 2) pe_int (fun _ _ => rfl)) pa_nil)) pe_int)))
      (pss_cons (ps_set (i := 4) sc_law.nd rfl (Or.inr rfl) (pe_ix (k_ix (K := K) rfl) (pe_lst (pa_cons pe_int (pa_cons pe_int (pa_cons pe_int (pa_cons pe_int (pa_cons pe_int (pa_cons (pe_op (k_addG (K := K) rfl) pe_int (pe_op op_mod (pe_callTy cr_int1 (by rfl) T.z_int (by decide +kernel) (pa_cons (pe_ix (k_ix (K := K) rfl) (pv 2) pe_int (fun _ _ => rfl)) pa_nil)) pe_int)) pa_nil))))))) (pe_op op_mod (pe_callTy cr_int1 (by rfl) T.z_int (by decide +kernel) (pa_cons (pe_ix (k_ix (K := K) rfl) (pv 2) pe_int (fun _ _ => rfl)) pa_nil)) pe_int) (fun _ _ => rfl)))
      (pss_cons (ps_set (i := 5) sc_law.nd rfl (Or.inl rfl) (pe_op op_mod (pe_callTy cr_int1 (by rfl) T.z_int (by decide +kernel) (pa_cons (pe_ix (k_ix (K := K) rfl) (pv 2) pe_int (fun _ _ => rfl)) pa_nil)) (pv 3)))
      (pss_cons (ps_set (i := 6) sc_law.nd rfl (Or.inl rfl) (pe_call (ok_L_steps T) (hr.mono (by decide)) (by rfl) T.g_L_steps T.F_L_steps.kp T.b_L_steps .nil pass0 (pa_cons (pv 2) (pa_cons (pv 3) (pa_cons (pv 4) pa_nil)))))
      (pss_cons (ps_set (i := 7) sc_law.nd rfl (Or.inl rfl) (pe_callTy (k_tupS (K := K) rfl) (by rfl) T.z_tuple (by decide +kernel) (pa_cons (pe_lc (own := [("_law_row", 19)]) (g := gName 19) (tt := tYes) rfl sc_law.nd (k_seqS (K := K) rfl (pv 6)) (blkOk_by (own := [("_law_row", 19)]) (by kernel_rfl)) (fun _ _ _ _ _ => (pg_name (i := 19) sc_law.nd rfl (by first | exact Or.inl rfl | exact Or.inr rfl))) (fun _ _ _ _ _ => pts_nil) (fun _ _ _ _ _ => (pe_callTy (k_tupS (K := K) rfl) (by rfl) T.z_tuple (by decide +kernel) (pa_cons (pv 19) pa_nil)))) pa_nil)))
      (pss_cons (ps_setLc (i := 8) (own := [("_law_row", 19)]) (g := gName 19) (tt := tYes) rfl sc_law.nd rfl rfl (sw_true rfl rfl rfl (by decide +kernel)) (k_seqS (K := K) rfl (pv 6)) (blkOk_by (own := [("_law_row", 19)]) (by kernel_rfl)) (fun _ _ _ _ _ => (pg_name (i := 19) sc_law.nd rfl (by first | exact Or.inl rfl | exact Or.inr rfl))) (fun _ _ _ _ _ => pts_nil) (fun _ _ _ _ _ => (pe_callTy (k_listS (K := K) rfl) (by rfl) T.z_list (by decide +kernel) (pa_cons (pv 19) pa_nil))))
      (pss_cons (ps_set (i := 9) sc_law.nd rfl (Or.inl rfl) (pe_make T.M_Rule (ok_Rule___init__ T) (hr.mono (by decide)) rfl T.gc_Rule T.b_Rule___init__ .nil pass0 (pa_cons (pv 5) (pa_cons (pv 8) pa_nil))))
      (pss_cons (ps_if (pt_cmpR (k_neG (K := K) rfl hr.units) (pv 8) (pv 6) (nomark _)) (pss_one (ps_ret pe_bl)) pss_nil)
      (pss_cons (ps_asg (pe_op op_mod (pe_callTy cr_int1 (by rfl) T.z_int (by decide +kernel) (pa_cons (pe_ix (k_ix (K := K) rfl) (pv 2) pe_int (fun _ _ => rfl)) pa_nil)) (pv 3)) (pg_sub (pe_ix (k_ix (K := K) rfl) (pv 8) (pe_op op_mod (pe_callTy cr_int1 (by rfl) T.z_int (by decide +kernel) (pa_cons (pe_ix (k_ix (K := K) rfl) (pv 2) pe_int (fun _ _ => rfl)) pa_nil)) (pv 3)) (fun _ _ => rfl)) (pe_op op_mod (pe_callTy cr_int1 (by rfl) T.z_int (by decide +kernel) (pa_cons (pe_ix (k_ix (K := K) rfl) (pv 2) pe_int (fun _ _ => rfl)) pa_nil)) (pv 4)) set_list))
      (pss_cons (ps_expr (k_bm (K := K) rfl PySem.F.plainAttrs_list PySem.F.slot_list_append PySem.F.type_list_append mt_append (pv 8) (pa_cons (pe_op op_rep (pe_lst (pa_cons pe_non pa_nil)) (pv 4)) pa_nil)))
      (pss_cons (ps_if (PW.pt (pw_or (pt_not (k_tru (K := K) rfl (pe_call (ok_L_same_at T 2) (hr.mono (by decide)) (by rfl) T.g_L_same T.F_L_same.kp T.b_L_same .nil pass0 (pa_cons (k_fld (K := K) rfl (pv 9) rfl) (pa_cons (pv 5) pa_nil))) (by intro _; rfl))) (pw_or1 (pt_not (k_tru (K := K) rfl (pe_call (ok_L_same_at T 2) (hr.mono (by decide)) (by rfl) T.g_L_same T.F_L_same.kp T.b_L_same .nil pass0 (pa_cons (k_fld (K := K) rfl (pv 9) rfl) (pa_cons (pv 7) pa_nil))) (by intro _; rfl)))))) (pss_one (ps_ret pe_bl)) pss_nil)
      (pss_cons (ps_setLc (i := 11) (own := [("_law_k", 10)]) (g := gName 10) (tt := tYes) rfl sc_law.nd rfl rfl (sw_true rfl rfl rfl (by decide +kernel)) (pi_range1 rfl T.z_range (pa_cons (pe_op op_mod (pe_callTy cr_int1 (by rfl) T.z_int (by decide +kernel) (pa_cons (pe_ix (k_ix (K := K) rfl) (pv 2) pe_int (fun _ _ => rfl)) pa_nil)) pe_int) pa_nil)) (blkOk_by (own := [("_law_k", 10)]) (by kernel_rfl)) (fun _ _ _ _ _ => (pg_name (i := 10) sc_law.nd rfl (by first | exact Or.inl rfl | exact Or.inr rfl))) (fun _ _ _ _ _ => pts_nil) (fun _ _ _ _ _ => (pe_op op_mod (pe_callTy cr_int1 (by rfl) T.z_int (by decide +kernel) (pa_cons (pe_ix (k_ix (K := K) rfl) (pv 2) (pe_op op_mod (pe_callTy cr_int1 (by rfl) T.z_int (by decide +kernel) (pa_cons (pe_op (k_addG (K := K) rfl) pe_int (pe_op op_mul pe_int (pv 10))) pa_nil)) pe_int) (fun _ _ => rfl)) pa_nil)) (pv 4))))
      (pss_cons (ps_for PassesOwn.never rfl (pi_range1 rfl T.z_range (pa_cons (pe_op (k_addG (K := K) rfl) (pe_callB (k_lenS (K := K) rfl) (by rfl) T.z_len (by decide +kernel) (pa_cons (pv 11) pa_nil)) pe_int) pa_nil)) (pg_name (i := 10) sc_law.nd rfl (Or.inl rfl))
      (pss_cons (ps_set (i := 12) sc_law.nd rfl (Or.inl rfl) (pe_call (ok_L_after T) (hr.mono (by decide)) (by rfl) T.g_L_after T.F_L_after.kp T.b_L_after .nil pass0 (pa_cons (pv 5) (pa_cons (pv 7) (pa_cons (pe_slice (k_slG (K := K) rfl) (pv 11) po_none (po_some (pv 10))) pa_nil)))))
      (pss_cons (ps_if (PW.pt (pw_or (pt_not (k_tru (K := K) rfl (pe_call (ok_L_same_at T 2) (hr.mono (by decide)) (by rfl) T.g_L_same T.F_L_same.kp T.b_L_same .nil pass0 (pa_cons (pe_meth (pv 9) T.C_Rule T.m_Rule_after (ok_Rule_after T) (hr.mono (by decide)) T.b_Rule_after .nil pass0 (pa_cons (pe_callTy (k_tupS (K := K) rfl) (by rfl) T.z_tuple (by decide +kernel) (pa_cons (pe_slice (k_slG (K := K) rfl) (pv 11) po_none (po_some (pv 10))) pa_nil)) pa_nil)) (pa_cons (pv 12) pa_nil))) (by intro _; rfl))) (pw_or1 (pt_not (k_tru (K := K) rfl (pe_call (ok_L_same_at T 2) (hr.mono (by decide)) (by rfl) T.g_L_same T.F_L_same.kp T.b_L_same .nil pass0 (pa_cons (pe_meth (pv 9) T.C_Rule T.m_Rule_after (ok_Rule_after T) (hr.mono (by decide)) T.b_Rule_after .nil pass0 (pa_cons (pe_slice (k_slG (K := K) rfl) (pv 11) po_none (po_some (pv 10))) pa_nil)) (pa_cons (pv 12) pa_nil))) (by intro _; rfl)))))) (pss_one (ps_ret pe_bl)) pss_nil)
      (pss_one (ps_for PassesOwn.never rfl (pi_range1 rfl T.z_range (pa_cons (pv 4) pa_nil)) (pg_name (i := 13) sc_law.nd rfl (Or.inl rfl))
      (pss_one (ps_if (pt_not (k_tru (K := K) rfl (pe_call (ok_L_same_at T 2) (hr.mono (by decide)) (by rfl) T.g_L_same T.F_L_same.kp T.b_L_same .nil pass0 (pa_cons (pe_meth (pv 9) T.C_Rule T.m_Rule_lets (ok_Rule_lets T) (hr.mono (by decide)) T.b_Rule_lets .nil pass0 (pa_cons (pe_slice (k_slG (K := K) rfl) (pv 11) po_none (po_some (pv 10))) (pa_cons (pv 13) pa_nil))) (pa_cons (pe_and (pe_cmpR op_notNN (pv 12) pe_non (nomark _)) (pe_one (pe_cmpR op_notNN (pe_ix (k_ix (K := K) rfl) (pe_ix (k_ix (K := K) rfl) (pv 7) (pv 12) (fun _ _ => rfl)) (pv 13) (fun _ _ => rfl)) pe_non (nomark _)))) pa_nil))) (by intro _; rfl))) (pss_one (ps_ret pe_bl)) pss_nil)))))))
      (pss_cons (ps_set (i := 14) sc_law.nd rfl (Or.inl rfl) (pe_ix (k_ix (K := K) rfl) (pe_lst (pa_cons (pv 5) (pa_cons (pe_op op_mod (pe_callTy cr_int1 (by rfl) T.z_int (by decide +kernel) (pa_cons (pe_ix (k_ix (K := K) rfl) (pv 2) pe_int (fun _ _ => rfl)) pa_nil)) (pv 3)) pa_nil))) (pe_op op_mod (pe_callTy cr_int1 (by rfl) T.z_int (by decide +kernel) (pa_cons (pe_ix (k_ix (K := K) rfl) (pv 2) pe_int (fun _ _ => rfl)) pa_nil)) pe_int) (fun _ _ => rfl)))
      (pss_cons (ps_setLc (i := 15) (own := [("_law_row", 19)]) (g := gName 19) (tt := tYes) rfl sc_law.nd rfl rfl (sw_true rfl rfl rfl (by decide +kernel)) (k_seqS (K := K) rfl (pv 6)) (blkOk_by (own := [("_law_row", 19)]) (by kernel_rfl)) (fun _ _ _ _ _ => (pg_name (i := 19) sc_law.nd rfl (by first | exact Or.inl rfl | exact Or.inr rfl))) (fun _ _ _ _ _ => pts_nil) (fun _ _ _ _ _ => (pe_callTy (k_listS (K := K) rfl) (by rfl) T.z_list (by decide +kernel) (pa_cons (pv 19) pa_nil))))
      (Evl.pss_cut (ps_if (pt_cmpR (k_eqG (K := K) rfl hr.units) (pe_op op_mod (pe_callTy cr_int1 (by rfl) T.z_int (by decide +kernel) (pa_cons (pe_op op_fdiv (pe_ix (k_ix (K := K) rfl) (pv 2) pe_int (fun _ _ => rfl)) pe_int) pa_nil)) pe_int) pe_int (nomark _)) (pss_cons (ps_set (i := 16) sc_law.nd rfl (Or.inl rfl) (pe_ix (k_ix (K := K) rfl) (pe_lst (pa_cons pe_non (pa_cons (pe_op op_mod (pe_callTy cr_int1 (by rfl) T.z_int (by decide +kernel) (pa_cons (pe_ix (k_ix (K := K) rfl) (pv 2) pe_int (fun _ _ => rfl)) pa_nil)) (pv 3)) pa_nil))) (pe_op op_mod (pe_callTy cr_int1 (by rfl) T.z_int (by decide +kernel) (pa_cons (pe_op op_fdiv (pe_ix (k_ix (K := K) rfl) (pv 2) pe_int (fun _ _ => rfl)) pe_int) pa_nil)) pe_int) (fun _ _ => rfl)))
      (pss_one (ps_asg (pv 16) (pg_sub (pe_ix (k_ix (K := K) rfl) (pv 15) (pe_op op_mod (pe_callTy cr_int1 (by rfl) T.z_int (by decide +kernel) (pa_cons (pe_ix (k_ix (K := K) rfl) (pv 2) pe_int (fun _ _ => rfl)) pa_nil)) (pv 3)) (fun _ _ => rfl)) (pe_op op_mod (pe_callTy cr_int1 (by rfl) T.z_int (by decide +kernel) (pa_cons (pe_ix (k_ix (K := K) rfl) (pv 2) pe_int (fun _ _ => rfl)) pa_nil)) (pv 4)) set_list)))) pss_nil)
      (Evl.pss_cut (ps_if (PW.pt (pw_and (pt_cmpR (k_eqG (K := K) rfl hr.units) (pe_op op_mod (pe_callTy cr_int1 (by rfl) T.z_int (by decide +kernel) (pa_cons (pe_ix (k_ix (K := K) rfl) (pv 2) pe_int (fun _ _ => rfl)) pa_nil)) pe_int) pe_int (nomark _)) (pw_and1 (pt_cmpR op_lt (pv 4) pe_int (nomark _))))) (pss_one (ps_setLc (i := 15) (own := [("_law_row", 19)]) (g := gName 19) (tt := tYes) rfl sc_law.nd rfl rfl (sw_true rfl rfl rfl (by decide +kernel)) (k_seqS (K := K) rfl (pv 6)) (blkOk_by (own := [("_law_row", 19)]) (by kernel_rfl)) (fun _ _ _ _ _ => (pg_name (i := 19) sc_law.nd rfl (by first | exact Or.inl rfl | exact Or.inr rfl))) (fun _ _ _ _ _ => pts_nil) (fun _ _ _ _ _ => (pe_op (k_addG (K := K) rfl) (pe_op op_rep (pe_lst (pa_cons (pe_ix (k_ix (K := K) rfl) (pv 19) pe_int (fun _ _ => rfl)) pa_nil)) (pv 4)) (pe_lst (pa_cons pe_non pa_nil)))))) pss_nil)
      (Evl.pss_cut (ps_if (PW.pt (pw_and (pt_cmpR (k_eqG (K := K) rfl hr.units) (pe_op op_mod (pe_callTy cr_int1 (by rfl) T.z_int (by decide +kernel) (pa_cons (pe_ix (k_ix (K := K) rfl) (pv 2) pe_int (fun _ _ => rfl)) pa_nil)) pe_int) pe_int (nomark _)) (pw_and1 (pt_cmpR op_lt (pv 3) pe_int (nomark _))))) (pss_one (ps_set (i := 15) sc_law.nd rfl (Or.inl rfl) (pe_op (k_addG (K := K) rfl) (pe_lc (own := [("_law_row", 19)]) (g := gName 19) (tt := tYes) rfl sc_law.nd (k_seqS (K := K) rfl (pv 6)) (blkOk_by (own := [("_law_row", 19)]) (by kernel_rfl)) (fun _ _ _ _ _ => (pg_name (i := 19) sc_law.nd rfl (by first | exact Or.inl rfl | exact Or.inr rfl))) (fun _ _ _ _ _ => pts_nil) (fun _ _ _ _ _ => (pe_callTy (k_listS (K := K) rfl) (by rfl) T.z_list (by decide +kernel) (pa_cons (pv 19) pa_nil)))) (pe_lst (pa_cons (pe_op op_rep (pe_lst (pa_cons pe_non pa_nil)) (pv 4)) pa_nil))))) pss_nil)
      (Evl.pss_cut (ps_if (PW.pt (pw_and (pt_cmpR (k_eqG (K := K) rfl hr.units) (pe_op op_mod (pe_callTy cr_int1 (by rfl) T.z_int (by decide +kernel) (pa_cons (pe_ix (k_ix (K := K) rfl) (pv 2) pe_int (fun _ _ => rfl)) pa_nil)) pe_int) pe_int (nomark _)) (pw_and1 (pt_cmpR op_gt (pv 4) pe_int (nomark _))))) (pss_one (ps_setLc (i := 15) (own := [("_law_row", 19)]) (g := gName 19) (tt := tYes) rfl sc_law.nd rfl rfl (sw_true rfl rfl rfl (by decide +kernel)) (k_seqS (K := K) rfl (pv 6)) (blkOk_by (own := [("_law_row", 19)]) (by kernel_rfl)) (fun _ _ _ _ _ => (pg_name (i := 19) sc_law.nd rfl (by first | exact Or.inl rfl | exact Or.inr rfl))) (fun _ _ _ _ _ => pts_nil) (fun _ _ _ _ _ => (pe_callTy (k_listS (K := K) rfl) (by rfl) T.z_list (by decide +kernel) (pa_cons (pe_slice (k_slG (K := K) rfl) (pv 19) po_none (po_some (pe_un un_neg pe_int))) pa_nil))))) pss_nil)
      (Evl.pss_cut (ps_set (i := 17) sc_law.nd rfl (Or.inl rfl) (pe_and (pe_cmpR (k_eqG (K := K) rfl hr.units) (pv 14) (pv 5) (nomark _)) (pe_one (pe_cmpR (k_eqG (K := K) rfl hr.units) (pv 15) (pv 6) (nomark _)))))
      (pss_cons (ps_set (i := 18) sc_law.nd rfl (Or.inl rfl) (pe_make T.M_Rule (ok_Rule___init__ T) (hr.mono (by decide)) rfl T.gc_Rule T.b_Rule___init__ .nil pass0 (pa_cons (pv 14) (pa_cons (pv 15) pa_nil))))
      (pss_cons (ps_if (PW.pt (pw_or (pt_cmpR (k_neG (K := K) rfl hr.units) (pe_cmpR (op_eqO T.e_Rule (ok_Rule___eq__ T) (hr.mono (by decide)) T.b_Rule___eq__ pass0) (pv 9) (pv 18) (nomark _)) (pv 17) (nomark _)) (pw_or (pt_cmpR (k_eqG (K := K) rfl hr.units) (pe_cmpR (op_neO T.e_Rule (ok_Rule___eq__ T) (hr.mono (by decide)) T.b_Rule___eq__ pass0) (pv 9) (pv 18) (nomark _)) (pv 17) (nomark _)) (pw_or1 (pt_not (pt_cmpR (op_eqO T.e_Rule (ok_Rule___eq__ T) (hr.mono (by decide)) T.b_Rule___eq__ pass0) (pv 9) (pe_make T.M_Rule (ok_Rule___init__ T) (hr.mono (by decide)) rfl T.gc_Rule T.b_Rule___init__ .nil pass0 (pa_cons (pv 5) (pa_cons (pv 7) pa_nil))) (nomark _))))))) (pss_one (ps_ret pe_bl)) pss_nil)
      (pss_one (ps_if (PW.pt (pw_or (pt_cmpR (op_eqO T.e_Rule (ok_Rule___eq__ T) (hr.mono (by decide)) T.b_Rule___eq__ pass0) (pv 9) (pe_tup (pa_cons (pv 5) (pa_cons (pv 7) pa_nil))) (nomark _)) (pw_or (pt_cmpR (op_eqO T.e_Rule (ok_Rule___eq__ T) (hr.mono (by decide)) T.b_Rule___eq__ pass0) (pv 9) pe_int (nomark _)) (pw_or1 (pt_not (pt_cmpR (op_neO T.e_Rule (ok_Rule___eq__ T) (hr.mono (by decide)) T.b_Rule___eq__ pass0) (pv 9) pe_str (nomark _))))))) (pss_one (ps_ret pe_bl)) pss_nil))))))))))))))))))))))))))
      (pss_one (ps_ret pe_bl))), ?_⟩
    refine go_start (σ' := [some (.ref a), none, none, none, none, none, none, none, none, none, none, none, none, none, none, none, none, none, none, none]) rfl ?_
    try dsimp only [cxOf, Cx.nox, Cx.wish]
    walk_at "go"
    have hm : (if (10 : Int) < (sc.length : Int) then 10 else (sc.length : Int)) ≤ sc.length ∧ (if (10 : Int) < (sc.length : Int) then 10 else (sc.length : Int)) ≤ 10 ∧ (0 : Int) ≤ (if (10 : Int) < (sc.length : Int) then 10 else (sc.length : Int)) := by split <;> omega
    refine l_range (fun i σ H' => ∃ (y1 y2 y3 y4 y5 y6 y7 y8 y9 y10 y11 y12 y13 y14 y15 y16 y17 y18 y19 : Option V), σ = [some (.ref a), y1, y2, y3, y4, y5, y6, y7, y8, y9, y10, y11, y12, y13, y14, y15, y16, y17, y18, y19] ∧ Same H H')
      (by omega) (by omega) ⟨none, none, none, none, none, none, none, none, none, none, none, none, none, none, none, none, none, none, none, rfl, Same.refl _⟩ ?_ ?_
    · rintro i σ H' hi ⟨y1, y2, y3, y4, y5, y6, y7, y8, y9, y10, y11, y12, y13, y14, y15, y16, y17, y18, y19, rfl, sm⟩
      walk_at "go"
      refine ⟨_, _, _, rfl, by omega, by omega, fun ns p H1 hnl hnb s1 hp hL => ?_⟩
      have nn : ∀ i : Int, 0 ≤ i → i < 82 → 0 ≤ nth ns i ∧ nth ns i < 1000 := fun i h0 h1 => hnb _ (nth_mem h0 (by omega))
      have m0 := nn 0 (by omega) (by omega)
      have m1 := nn 1 (by omega) (by omega)
      have m2 := nn 2 (by omega) (by omega)
      have m3 := nn 3 (by omega) (by omega)
      have m4 := nn 4 (by omega) (by omega)
      have m5 := nn 5 (by omega) (by omega)
      have m6 := nn 6 (by omega) (by omega)
      have m7 := nn 7 (by omega) (by omega)
      have m8 := nn 8 (by omega) (by omega)
      have m9 := nn 9 (by omega) (by omega)
      walk_at "go"
      refine ⟨(by show 6 ≤ sizeLine; decide), fun q1 hq1 => ?_⟩
      have s2 := Same.new (o := .lst [.int 1, .int 2, .int 3, .int 4, .int 5, .int (1 + nth ns 1 % 12)]) hq1
      have e2 : (upd H1 q1 (.lst [.int 1, .int 2, .int 3, .int 4, .int 5, .int (1 + nth ns 1 % 12)])) q1 = some (.lst (([1, 2, 3, 4, 5, 1 + nth ns 1 % 12] : List Int).map V.int)) := upd_same
      generalize upd H1 q1 (.lst [.int 1, .int 2, .int 3, .int 4, .int 5, .int (1 + nth ns 1 % 12)]) = H2 at s2 e2 ⊢
      have hL2 := s2 _ _ hL
      walk_at "go"
      obtain ⟨L, hLe, hL0⟩ : ∃ L : Nat, nth [1, 2, 3, 4, 5, 1 + nth ns 1 % 12] (nth ns 2 % 6) = (L : Int) ∧ 1 ≤ L ∧ L ≤ 12 := by
        have hm := nth_mem (ns := [1, 2, 3, 4, 5, 1 + nth ns 1 % 12]) (i := nth ns 2 % 6) (by omega) (by show _ < (6 : Int); omega)
        simp only [List.mem_cons, List.not_mem_nil, or_false] at hm
        exact ⟨(nth [1, 2, 3, 4, 5, 1 + nth ns 1 % 12] (nth ns 2 % 6)).toNat, by omega, by omega⟩
      rw [hLe]
      obtain ⟨n, hne, hn0, hn1⟩ : ∃ n : Nat, 1 + nth ns 0 % 6 = (n : Int) ∧ 1 ≤ n ∧ n ≤ 6 := ⟨(1 + nth ns 0 % 6).toNat, by omega, by omega, by omega⟩
      rw [hne]
      have hmod : ∀ z : Int, 0 ≤ z % (n : Int) ∧ z % (n : Int) < n := fun z => ⟨Int.emod_nonneg _ (by omega), Int.emod_lt_of_pos _ (by omega)⟩
      have hmodL : ∀ z : Int, 0 ≤ z % (L : Int) ∧ z % (L : Int) < L := fun z => ⟨Int.emod_nonneg _ (by omega), Int.emod_lt_of_pos _ (by omega)⟩
      obtain ⟨s0, hs0e, hs00, hs01⟩ : ∃ s0 : Int, nth ns 3 % (n : Int) = s0 ∧ 0 ≤ s0 ∧ s0 < n := ⟨_, rfl, (hmod _).1, (hmod _).2⟩
      rw [hs0e]
      refine ⟨p, ns, n, L, rfl, hL2, by omega, by omega, by omega, by omega, by omega, fun st D H3 ok s3 F3 => ?_⟩
      have hL3 := s3 _ _ hL2
      have hR3 : RRows true true K H3 (.ref D) (rowsV st) := F3.seq
      have s13 := s2.trans s3
      clear F3 e2 hq1
      have stl := ok.len
      walk_at "go"
      -- kept
      obtain ⟨_, xs, ea, hx, hxl, hxr⟩ := id hR3
      cases ea
      rw [rowsV_len] at hxl
      refine c_rep (R := RRw false K) RRw.mono RRw.tup xs hx (rowsV st) (by rw [rowsV_len]; omega) (line_of1 (by omega)) (fun _ => rfl) (fun i x d H4 N hi hxi hd s4 hN => ?_) (fun D4 H4 ys hD4 s4 e4 hyl hyr => ?_)
      · obtain ⟨p, rfl, hp⟩ := hxr i x d hxi hd
        walk_at "go"
        refine w_tupAny (s4.sq hp) fun p' H5 s5 hp' => ?_
        walk_at "go"
        exact hN _ _ s5 ⟨p', rfl, hp'⟩
      walk_at "go"
      refine w_tupL (Sq.lst e4) fun kp hkp => ?_
      have s5 := Same.new (o := .tup ys) hkp
      have hK5 : RRows false false K (upd H4 kp (.tup ys)) (.ref kp) (rowsV st) := ⟨kp, ys, rfl, Sq.tup upd_same, hyl, fun i y d a b => RRw.mono _ _ _ _ s5 (hyr i y d a b)⟩
      generalize upd H4 kp (.tup ys) = H5 at s5 hK5 ⊢
      have hR5 := RRows.mono _ _ _ _ (s4.trans s5) hR3
      have hL5 := (s4.trans s5) _ _ hL3
      have s15 := (s13.trans s4).trans s5
      clear hR3 hxr hx e4 hyr s4 s5 hkp
      walk_at "go"
      -- handed
      obtain ⟨_, xs2, ea, hx2, hxl2, hxr2⟩ := id hR5
      cases ea
      rw [rowsV_len] at hxl2
      refine c_fresh (rowsV st) xs2 hx2 (by rw [rowsV_len]; omega) (line_of1 (by omega)) (fun _ => rfl) (fun i x r H6 N hi hxi hri s6 hN => ?_) (fun Dh H6 s6 F6 => ?_)
      · obtain ⟨p, rfl, hp⟩ := hxr2 i x r hxi hri
        walk_at "go"
        refine w_listS (s6.sq hp) fun l hl => ?_
        walk_at "go"
        exact hN l _ hl (Same.new hl) upd_same
      have hL6 := s6 _ _ hL5
      have hR6 := RRows.mono _ _ _ _ s6 hR5
      have hK6 := RRows.mono _ _ _ _ s6 hK5
      walk_at "go"
      -- Rule(start, handed)
      intro r dx hr' hdx hne'
      have sB : Same H6 (upd (upd H6 dx (.own r)) r (.ins T.c_Rule dx [])) := (Same.new hdx).trans (Same.new (by rw [upd_ne (Ne.symm hne')]; exact hr'))
      refine ⟨r, dx, s0, _, true, true, st, rfl, upd_same, RRows.mono _ _ _ _ sB F6.seq, by omega, fun H7 f7 hI => ⟨rfl, ?_⟩⟩
      have s7 : Same H6 H7 := fun c o hc => f7 _ _ (ne_of_none hc hr') (sB _ _ hc)
      have F7 := F6.mono s7
      have hR7 := RRows.mono _ _ _ _ s7 hR6
      have hK7 := RRows.mono _ _ _ _ s7 hK6
      have hL7 := s7 _ _ hL6
      clear F6 hR6 hK6 hL6 hxr2 hx2 sB f7
      walk_at "go"
      refine w_neD (dp_steps F7.seq) (dp_steps hR7) (shaped_steps _ _ _) (shaped_steps _ _ _) ?_
      rw [eqv_steps, decide_eq_true rfl]
      walk_at "go"
      have hi4 := hmod (nth ns 4)
      have hj5 := hmodL (nth ns 5)
      have stl4 : ∃ r4 : List (Option Int), st[(nth ns 4 % (n : Int)).toNat]? = some r4 ∧ r4.length = L := by
        have h1 : st[(nth ns 4 % (n : Int)).toNat]? = some (st[(nth ns 4 % (n : Int)).toNat]'(by omega)) := List.getElem?_eq_getElem (by omega)
        exact ⟨_, h1, ok.row _ (List.mem_of_getElem? h1)⟩
      obtain ⟨r4, hr4, hr4l⟩ := stl4
      generalize nth ns 4 % (n : Int) = i4 at hi4 hr4 ⊢
      have fset : ∀ x : V, ∃ q : Addr, (∃ ps : List Addr, H7 Dh = some (.lst (ps.map V.ref)) ∧ ps[i4.toNat]? = some q) ∧ H7 q = some (.lst (r4.map vO)) ∧ H5 q = none ∧ q ≠ Dh ∧ FRows H5 (upd H7 q (.lst ((r4.map vO).set (nth ns 5 % (L : Int)).toNat x))) Dh ((rowsV st).set i4.toNat ((r4.map vO).set (nth ns 5 % (L : Int)).toNat x)) := fun x => F7.set (rowsV_at hr4)
      obtain ⟨q4, ⟨ps, hps, hpsi⟩, hq4, hq4n, hq4D, F8⟩ := fset (.int (nth ns 6 % (n : Int)))
      refine w_ix (Sq.lst hps) (by rw [show i4 = ((i4.toNat : Nat) : Int) by omega]; exact atI_nat (by rw [List.getElem?_map, hpsi]; rfl)) ?_
      walk_at "go"
      refine w_setV hq4 hj5.1 (by rw [List.length_map, hr4l]; exact hj5.2) ?_
      have s8 := Same.mut (o := .lst ((r4.map vO).set (nth ns 5 % (L : Int)).toNat (.int (nth ns 6 % (n : Int))))) (s6.trans s7) hq4n
      have hI8 := rule_upd (o := .lst ((r4.map vO).set (nth ns 5 % (L : Int)).toNat (.int (nth ns 6 % (n : Int))))) hq4 hI
      have hps8 := (upd_ne (H := H7) (o := .lst ((r4.map vO).set (nth ns 5 % (L : Int)).toNat (.int (nth ns 6 % (n : Int))))) (Ne.symm hq4D)).trans hps
      generalize upd H7 q4 (.lst ((r4.map vO).set (nth ns 5 % (L : Int)).toNat (.int (nth ns 6 % (n : Int))))) = H8 at s8 hI8 hps8 ⊢
      have hDh5 : H5 Dh = none := by
        obtain ⟨_, _, _, _, _, h, _⟩ := F7
        exact h
      have hpsl : ps.length ≤ 100 := by
        obtain ⟨ps', h1, h2, _⟩ := F7
        rw [h1] at hps
        have e := Option.some.inj hps
        injection e with e
        have e2 := congrArg List.length e
        rw [List.length_map, List.length_map] at e2
        rw [rowsV_len] at h2
        omega
      clear hq4 hps F7 F8 fset hR7 hK7 hL7 hI s6 s7
      walk_at "go"
      refine ⟨by show 1 ≤ sizeLine; decide, fun p9 hp9 => ?_⟩
      walk_at "go"
      refine w_rep upd_same (by omega) (by omega) (by show 1 ≤ 1000; omega) fun p10 hp10 => ?_
      have s810 := (Same.new (o := .lst [.non]) hp9).trans (Same.new (o := .lst (List.replicate (L : Int).toNat [V.non]).flatten) hp10)
      generalize upd (upd H8 p9 (.lst [.non])) p10 (.lst (List.replicate (L : Int).toNat [V.non]).flatten) = H9 at s810 ⊢
      walk_at "go"
      refine w_append (s810 _ _ hps8) (line_of1 (by rw [List.length_map]; omega)) ?_
      have s10 := Same.mut (o := .lst (ps.map V.ref ++ [.ref p10])) (s8.trans s810) hDh5
      have hI10 := rule_upd (o := .lst (ps.map V.ref ++ [.ref p10])) (s810 _ _ hps8) (rule_same s810 hI8)
      generalize upd H9 Dh (.lst (ps.map V.ref ++ [.ref p10])) = H10 at s10 hI10 ⊢
      clear s810 hps8 hI8 s8 hpsi
      have hK := RRows.mono _ _ _ _ s10 hK5
      have hR := RRows.mono _ _ _ _ s10 hR5
      have hL := s10 _ _ hL5
      obtain ⟨dxr, atr, h0r, hRr⟩ := id hI10
      unfold RuleF at h0r
      have s110 := s15.trans s10
      clear hL2 hL3 hL5 hR5 hK5
      walk_at "go"
      refine ⟨_, _, rfl, Sm.int, ?_⟩
      walk_at "go"
      refine ⟨_, _, rfl, sm_rows ok hRr hK, ?_⟩
      walk_at "go"
      -- text
      have m7' : 0 ≤ nth ns 7 % 13 ∧ nth ns 7 % 13 < 13 := by omega
      refine c_intsR (by omega) (by omega) (txtOf ns L (nth ns 7 % 13).toNat) (txtOf_len _ _ _) (fun _ => rfl) (fun j H11 M hj s11 hM => ?_) (fun Dt H11 hDt s11 et => ?_)
      · have hL11 := s11 _ _ hL
        walk_at "go"
        rw [← txtOf_nth (ns := ns) (L := L) (n := (nth ns 7 % 13).toNat) (i := j) (by omega)]
        exact hM _ (Same.refl _)
      have htl := txtOf_len ns L (nth ns 7 % 13).toNat
      have hti := txtOf_in (ns := ns) (L := L) (n := (nth ns 7 % 13).toNat) (by omega)
      generalize txtOf ns L (nth ns 7 % 13).toNat = tx at et htl hti
      have hI11 := rule_same s11 hI10
      have hK11 := RRows.mono _ _ _ _ s11 hK
      have hR11 := RRows.mono _ _ _ _ s11 hR
      have hL11 := s11 _ _ hL
      have s111 := s110.trans s11
      clear hI10 hK hR hL h0r hRr s110 s11 s10
      walk_at "go"
      refine l_range (fun j σ H' => ∃ (y10 y12 y13 : Option V), σ = [some (.ref a), some (.int (i : Nat)), some (.ref p), some (.int n), some (.int L), some (.int s0), some (.ref D), some (.ref kp), some (.ref Dh), some (.ref r), y10, some (.ref Dt), y12, y13, y14, y15, y16, y17, y18, y19] ∧ Same H11 H')
        (by omega) (by omega) ⟨_, _, _, rfl, Same.refl _⟩ ?_ ?_
      -- skip<
      · rintro j σ H12 hj ⟨y10, y12, y13, rfl, s12⟩
        have hI12 := rule_same s12 hI11
        have hK12 := RRows.mono _ _ _ _ s12 hK11
        have et12 := s12 _ _ et
        have htin : ∀ l ∈ tx.take j, 0 ≤ l ∧ l < (L : Int) := fun l h => hti l (List.mem_of_mem_take h)
        have htlen : (tx.take j).length ≤ 100 := by rw [List.length_take]; omega
        walk_at "go"
        refine w_slTo (ns := tx) (Sq.lst et12) (by omega) fun p13 hp13 => ?_
        rw [Int.toNat_natCast]
        have s13' := Same.new (o := .lst ((tx.take j).map V.int)) hp13
        have e13 : (upd H12 p13 (.lst ((tx.take j).map V.int))) p13 = some (.lst ((tx.take j).map V.int)) := upd_same
        generalize upd H12 p13 (.lst ((tx.take j).map V.int)) = H13 at s13' e13 ⊢
        walk_at "go"
        refine ⟨s0, _, st, n, L, true, false, false, p13, tx.take j, rfl, RRows.mono _ _ _ _ s13' hK12, ok, hs00, hs01, Sq.lst e13, htin, ?_⟩
        have hsm0 := afterR_small ok (tx.take j) (some s0) (fun q e => by cases e; exact ⟨hs00, hs01⟩) htin
        generalize eo : afterR st (some s0) (tx.take j) = o at hsm0 ⊢
        have hI13 := rule_same s13' hI12
        have et13 := s13' _ _ et12
        obtain ⟨dxr, atr, h0r, _⟩ := id hI13
        unfold RuleF at h0r
        walk_at "go"
        refine w_slTo (ns := tx) (Sq.lst et13) (by omega) fun p14 hp14 => ?_
        rw [Int.toNat_natCast]
        have s14 := Same.new (o := .lst ((tx.take j).map V.int)) hp14
        have e14 : (upd H13 p14 (.lst ((tx.take j).map V.int))) p14 = some (.lst ((tx.take j).map V.int)) := upd_same
        generalize upd H13 p14 (.lst ((tx.take j).map V.int)) = H14 at s14 e14 ⊢
        walk_at "go"
        refine w_tupL (Sq.lst e14) fun p15 hp15 => ?_
        have s15' := Same.new (o := .tup ((tx.take j).map V.int)) hp15
        have e15 : (upd H14 p15 (.tup ((tx.take j).map V.int))) p15 = some (.tup ((tx.take j).map V.int)) := upd_same
        generalize upd H14 p15 (.tup ((tx.take j).map V.int)) = H15 at s15' e15 ⊢
        have hI15 := rule_same (s14.trans s15') hI13
        have et15 := (s14.trans s15') _ _ et13
        walk_at "go"
        refine ⟨r, p15, s0, st, n, L, false, tx.take j, rfl, hI15, ok, hs00, hs01, Sq.tup e15, htin, ?_⟩
        rw [eo]
        clear e14 e15
        obtain ⟨dxr5, atr5, h0r5, _⟩ := id hI15
        unfold RuleF at h0r5
        walk_at "go"
        refine ⟨_, _, rfl, sm_O o, ?_⟩
        walk_at "go"
        refine w_slTo (ns := tx) (Sq.lst et15) (by omega) fun p16 hp16 => ?_
        rw [Int.toNat_natCast]
        have s16 := Same.new (o := .lst ((tx.take j).map V.int)) hp16
        have e16 : (upd H15 p16 (.lst ((tx.take j).map V.int))) p16 = some (.lst ((tx.take j).map V.int)) := upd_same
        generalize upd H15 p16 (.lst ((tx.take j).map V.int)) = H16 at s16 e16 ⊢
        have hI16 := rule_same s16 hI15
        walk_at "go"
        refine ⟨r, p16, s0, st, n, L, true, tx.take j, rfl, hI16, ok, hs00, hs01, Sq.lst e16, htin, ?_⟩
        rw [eo]
        walk_at "go"
        refine ⟨_, _, rfl, sm_O o, ?_⟩
        have s1216 := ((s13'.trans s14).trans s15').trans s16
        have et16 := s16 _ _ et15
        have hK16 := RRows.mono _ _ _ _ s1216 hK12
        clear h0r5 h0r hI15 hI13 hI12 et15 et13 et12 e13 e16 s16 s15' s14 s13' hK12
        walk_at "go"
        refine l_range (fun m σ H' => ∃ (y13 : Option V), σ = [some (.ref a), some (.int (i : Nat)), some (.ref p), some (.int n), some (.int L), some (.int s0), some (.ref D), some (.ref kp), some (.ref Dh), some (.ref r), some (.int (j : Nat)), some (.ref Dt), some (vO o), y13, y14, y15, y16, y17, y18, y19] ∧ Same H16 H')
          (by omega) (by omega) ⟨_, rfl, Same.refl _⟩ ?_ ?_
        · rintro m σ H17 hm' ⟨y13, rfl, s17⟩
          have hI17 := rule_same s17 hI16
          have et17 := s17 _ _ et16
          have hK17 := RRows.mono _ _ _ _ s17 hK16
          obtain ⟨dxr, atr, h0r, _⟩ := id hI17
          unfold RuleF at h0r
          walk_at "go"
          refine w_slTo (ns := tx) (Sq.lst et17) (by omega) fun p18 hp18 => ?_
          rw [Int.toNat_natCast]
          have s18 := Same.new (o := .lst ((tx.take j).map V.int)) hp18
          have e18 : (upd H17 p18 (.lst ((tx.take j).map V.int))) p18 = some (.lst ((tx.take j).map V.int)) := upd_same
          generalize upd H17 p18 (.lst ((tx.take j).map V.int)) = H18 at s18 e18 ⊢
          walk_at "go"
          refine ⟨r, p18, s0, _, st, n, L, true, tx.take j, rfl, rule_same s18 hI17, ok, hs00, hs01, Sq.lst e18, htin, by omega, by omega, by omega, fun H19 s19 => ?_⟩
          rw [eo]
          have hK19 := RRows.mono _ _ _ _ (s18.trans s19) hK17
          clear h0r e18 et17 hI17 hK17
          have fin : ∃ (y13' : Option V), [some (.ref a), some (.int (i : Nat)), some (.ref p), some (.int n), some (.int L), some (.int s0), some (.ref D), some (.ref kp), some (.ref Dh), some (.ref r), some (.int (j : Nat)), some (.ref Dt), some (vO o), some (.int (m : Nat)), y14, y15, y16, y17, y18, y19] = [some (.ref a), some (.int (i : Nat)), some (.ref p), some (.int n), some (.int L), some (.int s0), some (.ref D), some (.ref kp), some (.ref Dh), some (.ref r), some (.int (j : Nat)), some (.ref Dt), some (vO o), y13', y14, y15, y16, y17, y18, y19] ∧ Same H16 H19 := ⟨_, rfl, (s17.trans s18).trans s19⟩
          cases o with
          | none =>
            dsimp only [vO] at fin ⊢
            walk_at "go"
            refine ⟨_, _, rfl, sm_bl _, ?_⟩
            walk_at "go"
            exact fin
          | some q =>
            dsimp only [vO] at fin ⊢
            have hq := hsm0 q rfl
            obtain ⟨a', vs, p', rr, ea, hv, hat, hp', hat2, _⟩ := steps_look ok hK19 (l := ((m : Nat) : Int)) hq.1 hq.2 (by omega) (by omega)
            cases ea
            walk_at "go"
            refine w_ix hv hat ?_
            walk_at "go"
            refine w_ix hp' hat2 ?_
            cases stepR st (some q) ((m : Nat) : Int) with
            | none =>
              dsimp only [vO]
              walk_at "go"
              refine ⟨_, _, rfl, sm_bl _, ?_⟩
              walk_at "go"
              exact fin
            | some x =>
              dsimp only [vO]
              walk_at "go"
              refine ⟨_, _, rfl, sm_bl _, ?_⟩
              walk_at "go"
              exact fin
        · rintro σ H17 ⟨y13, rfl, s17⟩
          walk_at "go"
          exact ⟨_, _, _, rfl, (s12.trans s1216).trans s17⟩
      -- >skip
      rintro σ H12 ⟨y10, y12, y13, rfl, s12⟩
      have hI12 := rule_same s12 hI11
      have hK12 := RRows.mono _ _ _ _ s12 hK11
      have hR12 := RRows.mono _ _ _ _ s12 hR11
      have hL12 := s12 _ _ hL11
      have s112 := s111.trans s12
      clear hI11 hK11 hR11 hL11 s111 s12 et
      walk_at "go"
      refine ⟨by show 2 ≤ sizeLine; decide, fun p13 hp13 => ?_⟩
      have s13' := Same.new (o := .lst [.int s0, .int (nth ns 8 % (n : Int))]) hp13
      have e13 : (upd H12 p13 (.lst [.int s0, .int (nth ns 8 % (n : Int))])) p13 = some (.lst (([s0, nth ns 8 % (n : Int)] : List Int).map V.int)) := upd_same
      generalize upd H12 p13 (.lst [.int s0, .int (nth ns 8 % (n : Int))]) = H13 at s13' e13 ⊢
      have hI13 := rule_same s13' hI12
      have hK13 := RRows.mono _ _ _ _ s13' hK12
      have hR13 := RRows.mono _ _ _ _ s13' hR12
      have hL13 := s13' _ _ hL12
      have s113 := s112.trans s13'
      clear hI12 hK12 hR12 hL12 s112 s13'
      walk_at "go"
      generalize nth [s0, nth ns 8 % (n : Int)] (nth ns 9 % 2) = so
      clear e13
      obtain ⟨_, xs3, ea, hx3, hxl3, hxr3⟩ := id hR13
      cases ea
      rw [rowsV_len] at hxl3
      -- other
      refine c_fresh (rowsV st) xs3 hx3 (by rw [rowsV_len]; omega) (line_of1 (by omega)) (fun _ => rfl) (fun i x r H6 N hi hxi hri s6 hN => ?_) (fun Do H14 s14 FO => ?_)
      · obtain ⟨p, rfl, hp⟩ := hxr3 i x r hxi hri
        walk_at "go"
        refine w_listS (s6.sq hp) fun l hl => ?_
        walk_at "go"
        exact hN l _ hl (Same.new hl) upd_same
      have hL14 := s14 _ _ hL13
      walk_at "go"
      refine w_cut (fun σ H' => ∃ (y16 y19 : Option V) (Do : Addr) (st' : Steps), σ = [some (.ref a), some (.int (i : Nat)), some (.ref p), some (.int n), some (.int L), some (.int s0), some (.ref D), some (.ref kp), some (.ref Dh), some (.ref r), y10, some (.ref Dt), y12, y13, some (.int so), some (.ref Do), y16, y17, y18, y19] ∧ Same H13 H' ∧ RRows true true K H' (.ref Do) (rowsV st') ∧ st'.length ≤ 100) ?_ ?_
      -- skip<
      · walk_at "go"
        refine w_iteD (fun _ => ?_) (fun _ => ?_)
        · walk_at "go"
          refine ⟨by show 2 ≤ sizeLine; decide, fun p15 hp15 => ?_⟩
          have s15' := Same.new (o := .lst [.non, .int (nth ns 6 % (n : Int))]) hp15
          have e15 : (upd H14 p15 (.lst [.non, .int (nth ns 6 % (n : Int))])) p15 = some (.lst [.non, .int (nth ns 6 % (n : Int))]) := upd_same
          generalize upd H14 p15 (.lst [.non, .int (nth ns 6 % (n : Int))]) = H15 at s15' e15 ⊢
          have hL15 := s15' _ _ hL14
          have FO15 := FO.mono s15'
          walk_at "go"
          obtain ⟨o, ho⟩ : ∃ o : Option Int, atI [V.non, .int (nth ns 6 % (n : Int))] (nth ns 9 / 4 % 2) = some (vO o) := by
            have h : nth ns 9 / 4 % 2 = 0 ∨ nth ns 9 / 4 % 2 = 1 := by omega
            rcases h with h | h <;> rw [h]
            · exact ⟨none, rfl⟩
            · exact ⟨some _, rfl⟩
          refine w_ix (Sq.lst e15) ho ?_
          walk_at "go"
          have hi4 := hmod (nth ns 4)
          have hj5 := hmodL (nth ns 5)
          obtain ⟨r4, hr4, hr4l⟩ : ∃ r4 : List (Option Int), st[(nth ns 4 % (n : Int)).toNat]? = some r4 ∧ r4.length = L := by
            have h1 : st[(nth ns 4 % (n : Int)).toNat]? = some (st[(nth ns 4 % (n : Int)).toNat]'(by omega)) := List.getElem?_eq_getElem (by omega)
            exact ⟨_, h1, ok.row _ (List.mem_of_getElem? h1)⟩
          generalize nth ns 4 % (n : Int) = i4 at hi4 hr4 ⊢
          obtain ⟨q4, ⟨ps, hps, hpsi⟩, hq4, hq4n, hq4D, F8⟩ := FO15.set (r' := (r4.map vO).set (nth ns 5 % (L : Int)).toNat (vO o)) (rowsV_at hr4)
          refine w_ix (Sq.lst hps) (by rw [show i4 = ((i4.toNat : Nat) : Int) by omega]; exact atI_nat (by rw [List.getElem?_map, hpsi]; rfl)) ?_
          walk_at "go"
          refine w_setV hq4 hj5.1 (by rw [List.length_map, hr4l]; exact hj5.2) ?_
          have erow : (rowsV st).set i4.toNat ((r4.map vO).set (nth ns 5 % (L : Int)).toNat (vO o)) = rowsV (st.set i4.toNat (r4.set (nth ns 5 % (L : Int)).toNat o)) := by
            unfold rowsV
            rw [List.map_set, List.map_set]
          rw [erow] at F8
          walk_at "go"
          exact ⟨_, _, _, _, rfl, Same.mut (s14.trans s15') hq4n, F8.seq, by rw [List.length_set]; omega⟩
        · walk_at "go"
          exact ⟨_, _, _, _, rfl, s14, FO.seq, by omega⟩
      -- >skip
      clear FO hL14 s14
      rintro σ H14 ⟨y16, y19, Do, st', rfl, s14, hO, hOl⟩
      have hL14 := s14 _ _ hL13
      refine w_cut (fun σ H' => ∃ (y16 y19 : Option V) (Do : Addr) (st' : Steps), σ = [some (.ref a), some (.int (i : Nat)), some (.ref p), some (.int n), some (.int L), some (.int s0), some (.ref D), some (.ref kp), some (.ref Dh), some (.ref r), y10, some (.ref Dt), y12, y13, some (.int so), some (.ref Do), y16, y17, y18, y19] ∧ Same H13 H' ∧ RRows true true K H' (.ref Do) (rowsV st') ∧ st'.length ≤ 100) ?_ ?_
      -- skip<
      · walk_at "go"
        refine w_iteD (fun _ => ?_) (fun _ => ?_)
        · walk_at "go"
          refine w_iteD (fun _ => ?_) (fun _ => ?_)
          · walk_at "go"
            refine c_fresh (rowsV (st.map fun r => List.replicate L (r.getD 0 none) ++ [none])) xs3 (s14.sq hx3) (by rw [rowsV_len, List.length_map]; omega) (line_of1 (by omega)) (fun _ => rfl) (fun i x r H6 N hi hxi hri s6 hN => ?_) (fun Dn H15 s15' FN => ?_)
            · have hst : st[i]? = some (st[i]'(by omega)) := List.getElem?_eq_getElem (by omega)
              generalize st[i]'(by omega) = r0 at hst
              have hr0 := ok.row _ (List.mem_of_getElem? hst)
              rw [rowsV_at (r := List.replicate L (r0.getD 0 none) ++ [none]) (by rw [List.getElem?_map, hst]; rfl)] at hri
              cases hri
              obtain ⟨p, rfl, hp⟩ := hxr3 i x _ hxi (rowsV_at hst)
              have h0 : r0[0]? = some (r0.getD 0 none) := by rw [List.getD_eq_getElem?_getD, List.getElem?_eq_getElem (by omega)]; rfl
              generalize r0.getD 0 none = o0 at h0 hN
              have s146 := s14.trans s6
              walk_at "go"
              refine w_ix (s146.sq hp) (show atI (r0.map vO) ((0 : Nat) : Int) = some (vO o0) from atI_nat (vO_at h0)) ?_
              walk_at "go"
              refine ⟨by show 1 ≤ sizeLine; decide, fun pA hpA => ?_⟩
              walk_at "go"
              refine w_rep upd_same (by omega) (by omega) (by show 1 ≤ 1000; omega) fun pB hpB => ?_
              rw [Int.toNat_natCast, flat_rep]
              have sAB := (Same.new (o := .lst [vO o0]) hpA).trans (Same.new (o := .lst (List.replicate L (vO o0))) hpB)
              have eB : (upd (upd H6 pA (.lst [vO o0])) pB (.lst (List.replicate L (vO o0)))) pB = some (.lst (List.replicate L (vO o0))) := upd_same
              generalize upd (upd H6 pA (.lst [vO o0])) pB (.lst (List.replicate L (vO o0))) = H7 at sAB eB ⊢
              walk_at "go"
              refine ⟨by show 1 ≤ sizeLine; decide, fun pC hpC => ?_⟩
              have sC := Same.new (o := .lst [.non]) hpC
              refine w_catLL (sC _ _ eB) upd_same (by rw [List.length_replicate, sizeLine_eq]; show L + 1 ≤ _; omega) fun pD hpD => ?_
              walk_at "go"
              refine hN pD _ (none_back (sAB.trans sC) hpD) ((sAB.trans sC).trans (Same.new hpD)) ?_
              rw [upd_same, List.map_append, List.map_replicate]
              rfl
            walk_at "go"
            exact ⟨_, _, _, _, rfl, s14.trans s15', FN.seq, by rw [List.length_map]; omega⟩
          · walk_at "go"
            exact ⟨_, _, _, _, rfl, s14, hO, hOl⟩
        · walk_at "go"
          exact ⟨_, _, _, _, rfl, s14, hO, hOl⟩
      -- >skip
      clear hO hOl hL14 s14
      rintro σ H14 ⟨y16, y19, Do, st', rfl, s14, hO, hOl⟩
      have hL14 := s14 _ _ hL13
      refine w_cut (fun σ H' => ∃ (y16 y19 : Option V) (Do : Addr) (st' : Steps), σ = [some (.ref a), some (.int (i : Nat)), some (.ref p), some (.int n), some (.int L), some (.int s0), some (.ref D), some (.ref kp), some (.ref Dh), some (.ref r), y10, some (.ref Dt), y12, y13, some (.int so), some (.ref Do), y16, y17, y18, y19] ∧ Same H13 H' ∧ RRows true true K H' (.ref Do) (rowsV st') ∧ st'.length ≤ 100) ?_ ?_
      -- skip<
      · walk_at "go"
        refine w_iteD (fun _ => ?_) (fun _ => ?_)
        · walk_at "go"
          refine w_iteD (fun _ => ?_) (fun _ => ?_)
          · walk_at "go"
            refine c_fresh (rowsV st) xs3 (s14.sq hx3) (by rw [rowsV_len]; omega) (line_of1 (by omega)) (fun _ => rfl) (fun i x r H6 N hi hxi hri s6 hN => ?_) (fun Dn H15 s15' FN => ?_)
            · obtain ⟨p, rfl, hp⟩ := hxr3 i x r hxi hri
              walk_at "go"
              refine w_listS ((s14.trans s6).sq hp) fun l hl => ?_
              walk_at "go"
              exact hN l _ hl (Same.new hl) upd_same
            walk_at "go"
            refine ⟨by show 1 ≤ sizeLine; decide, fun pA hpA => ?_⟩
            walk_at "go"
            refine w_rep upd_same (by omega) (by omega) (by show 1 ≤ 1000; omega) fun pB hpB => ?_
            rw [Int.toNat_natCast, flat_rep]
            have sAB := (Same.new (o := .lst [.non]) hpA).trans (Same.new (o := .lst (List.replicate L V.non)) hpB)
            have eB : (upd (upd H15 pA (.lst [.non])) pB (.lst (List.replicate L V.non))) pB = some (.lst (List.replicate L V.non)) := upd_same
            generalize upd (upd H15 pA (.lst [.non])) pB (.lst (List.replicate L V.non)) = H16 at sAB eB ⊢
            walk_at "go"
            refine ⟨by show 1 ≤ sizeLine; decide, fun pC hpC => ?_⟩
            have sC := Same.new (o := .lst [.ref pB]) hpC
            obtain ⟨ps, hps, hpl, _, _, _, _, hpr⟩ := id (FN.mono (sAB.trans sC))
            rw [rowsV_len] at hpl
            refine w_catLL hps upd_same (by rw [List.length_map, sizeLine_eq]; show ps.length + 1 ≤ _; omega) fun pD hpD => ?_
            walk_at "go"
            have sD := Same.new (o := .lst (ps.map V.ref ++ [.ref pB])) hpD
            refine ⟨_, _, pD, st ++ [List.replicate L none], rfl, (((s14.trans s15').trans sAB).trans sC).trans sD, ?_, by rw [List.length_append]; show st.length + 1 ≤ 100; omega⟩
            refine ⟨pD, _, rfl, Sq.lst upd_same, ?_, fun j y x hy hx => ?_⟩
            · rw [List.length_append, List.length_map, rowsV_len, List.length_append, hpl]; rfl
            · have ers : rowsV (st ++ [List.replicate L none]) = rowsV st ++ [List.replicate L V.non] := by
                unfold rowsV
                rw [List.map_append, List.map_cons, List.map_nil, List.map_replicate]
                rfl
              rw [ers] at hx
              by_cases hlt : j < ps.length
              · rw [List.getElem?_append_left (by rw [List.length_map]; exact hlt), List.getElem?_map, List.getElem?_eq_getElem hlt] at hy
                rw [List.getElem?_append_left (by rw [rowsV_len]; omega)] at hx
                cases hy
                exact ⟨_, rfl, Sq.lst (sD _ _ (hpr j _ x (List.getElem?_eq_getElem hlt) hx))⟩
              · have h1 := (List.getElem?_eq_some_iff.mp hy).1
                rw [List.length_append, List.length_map] at h1
                have ej : j = ps.length := by
                  have : j < ps.length + 1 := h1
                  omega
                subst ej
                rw [List.getElem?_append_right (by rw [List.length_map]; exact Nat.le_refl _), List.length_map, Nat.sub_self] at hy
                rw [List.getElem?_append_right (by rw [rowsV_len]; omega), rowsV_len, hpl, Nat.sub_self] at hx
                cases hy
                cases hx
                exact ⟨pB, rfl, Sq.lst ((sC.trans sD) _ _ eB)⟩
          · walk_at "go"
            exact ⟨_, _, _, _, rfl, s14, hO, hOl⟩
        · walk_at "go"
          exact ⟨_, _, _, _, rfl, s14, hO, hOl⟩
      -- >skip
      clear hO hOl hL14 s14
      rintro σ H14 ⟨y16, y19, Do, st', rfl, s14, hO, hOl⟩
      have hL14 := s14 _ _ hL13
      refine w_cut (fun σ H' => ∃ (y16 y19 : Option V) (Do : Addr) (st' : Steps), σ = [some (.ref a), some (.int (i : Nat)), some (.ref p), some (.int n), some (.int L), some (.int s0), some (.ref D), some (.ref kp), some (.ref Dh), some (.ref r), y10, some (.ref Dt), y12, y13, some (.int so), some (.ref Do), y16, y17, y18, y19] ∧ Same H13 H' ∧ RRows true true K H' (.ref Do) (rowsV st') ∧ st'.length ≤ 100) ?_ ?_
      -- skip<
      · walk_at "go"
        refine w_iteD (fun _ => ?_) (fun _ => ?_)
        · walk_at "go"
          refine w_iteD (fun _ => ?_) (fun _ => ?_)
          · walk_at "go"
            refine c_fresh (rowsV (st.map fun r => r.take (r.length - 1))) xs3 (s14.sq hx3) (by rw [rowsV_len, List.length_map]; omega) (line_of1 (by omega)) (fun _ => rfl) (fun i x r H6 N hi hxi hri s6 hN => ?_) (fun Dn H15 s15' FN => ?_)
            · have hst : st[i]? = some (st[i]'(by omega)) := List.getElem?_eq_getElem (by omega)
              generalize st[i]'(by omega) = r0 at hst
              rw [rowsV_at (r := r0.take (r0.length - 1)) (by rw [List.getElem?_map, hst]; rfl)] at hri
              cases hri
              obtain ⟨p, rfl, hp⟩ := hxr3 i x _ hxi (rowsV_at hst)
              walk_at "go"
              refine w_slC (ys := (r0.take (r0.length - 1)).map vO) ((s14.trans s6).sq hp) (by rw [cutV_neg, List.length_map, List.map_take]) fun pA hpA => ?_
              walk_at "go"
              refine w_listS (b := true) (Sq.lst upd_same) fun l hl => ?_
              walk_at "go"
              exact hN l _ (none_back (Same.new hpA) hl) ((Same.new hpA).trans (Same.new hl)) upd_same
            walk_at "go"
            exact ⟨_, _, _, _, rfl, s14.trans s15', FN.seq, by rw [List.length_map]; omega⟩
          · walk_at "go"
            exact ⟨_, _, _, _, rfl, s14, hO, hOl⟩
        · walk_at "go"
          exact ⟨_, _, _, _, rfl, s14, hO, hOl⟩
      -- >skip
      clear hO hOl hL14 s14
      rintro σ H14 ⟨y16, y19, Do, st', rfl, s14, hO, hOl⟩
      have hR14 := RRows.mono _ _ _ _ s14 hR13
      have hK14 := RRows.mono _ _ _ _ s14 hK13
      have hI14 := rule_same s14 hI13
      have s114 := s113.trans s14
      clear hL13 hR13 hI13 hK13 s113 s14 hxr3 hx3
      refine w_cut (fun σ H' => σ = [some (.ref a), some (.int (i : Nat)), some (.ref p), some (.int n), some (.int L), some (.int s0), some (.ref D), some (.ref kp), some (.ref Dh), some (.ref r), y10, some (.ref Dt), y12, y13, some (.int so), some (.ref Do), y16, some (.bl (decide (s0 = so ∧ st = st'))), y18, y19] ∧ H' = H14) ?_ ?_
      · walk_at "go"
        refine w_iteD (fun h1 => ?_) (fun h1 => ?_)
        · refine w_op ?_
          walk_at "go"
          refine w_eqD (dp_steps hO) (dp_steps hR14) (shaped_steps _ _ _) (shaped_steps _ _ _) ?_
          rw [eqv_steps]
          walk_at "go"
          have e : decide (st' = st) = decide (s0 = so ∧ st = st') := by
            rw [decide_eq_decide]
            exact ⟨fun h => ⟨h1.symm, h.symm⟩, fun h => h.2.symm⟩
          rw [e]
          exact ⟨rfl, rfl⟩
        · walk_at "go"
          have e : false = decide (s0 = so ∧ st = st') := (decide_eq_false fun h => h1 h.1.symm).symm
          rw [e]
          exact ⟨rfl, rfl⟩
      rintro σ H' ⟨rfl, rfl⟩
      generalize esm : decide (s0 = so ∧ st = st') = same
      walk_at "go"
      -- Rule(other_start, other)
      intro r2 dx2 hr2 hdx2 hne2
      have sB2 : Same H' (upd (upd H' dx2 (.own r2)) r2 (.ins T.c_Rule dx2 [])) := (Same.new hdx2).trans (Same.new (by rw [upd_ne (Ne.symm hne2)]; exact hr2))
      refine ⟨r2, dx2, so, _, true, true, st', rfl, upd_same, RRows.mono _ _ _ _ sB2 hO, by omega, fun H15 f15 hI2 => ⟨rfl, ?_⟩⟩
      have s15' : Same H' H15 := fun c o hc => f15 _ _ (ne_of_none hc hr2) (sB2 _ _ hc)
      have hI15 := rule_same s15' hI14
      have hK15 := RRows.mono _ _ _ _ s15' hK14
      have s115 := s114.trans s15'
      clear hR14 hK14 hI14 s114 hO sB2 f15
      obtain ⟨dxr, atr, h0r, _⟩ := id hI15
      obtain ⟨dxr2, atr2, h0r2, _⟩ := id hI2
      have hkC : PySem.W.kitOne K (.ref T.c_Rule) (.ref T.c_Rule) = some true := kit_self
      walk_at "go"
      refine ⟨r, _, _, _, rfl, h0r, T.o_Rule.tyx cF h0r2, first_self, r, s0, st, _, rfl, hI15, .inl ⟨r2, so, st', rfl, hI2, fun H16 s16 => ⟨_, rfl, ?_⟩⟩⟩
      rw [esm]
      walk_at "go"
      refine .inl ⟨rfl, ?_⟩
      rw [decide_eq_true rfl]
      walk_at "go"
      have hI16 := rule_same s16 hI15
      have hI216 := rule_same s16 hI2
      obtain ⟨dxr', atr', h0r', _⟩ := id hI16
      obtain ⟨dxr2', atr2', h0r2', _⟩ := id hI216
      refine ⟨r, _, _, _, rfl, h0r', T.o_Rule.tyx cF h0r2', first_self, r, s0, st, _, rfl, hI16, .inl ⟨r2, so, st', rfl, hI216, fun H17 s17 => ⟨_, rfl, ?_⟩⟩⟩
      rw [esm]
      walk_at "go"
      refine .inl ⟨rfl, ?_⟩
      rw [show decide (V.bl (!same) = V.bl same) = false from by cases same <;> rfl]
      have s1517 := s16.trans s17
      have hI17 := rule_same s1517 hI15
      have hK17 := RRows.mono _ _ _ _ s1517 hK15
      have s117 := s115.trans s1517
      clear h0r h0r2 h0r' h0r2' hI15 hI16 hI2 hI216 hK15 s115 s16 s17 s1517
      walk_at "go"
      -- rule == Rule(start, kept)
      intro r3 dx3 hr3 hdx3 hne3
      have sB3 : Same H17 (upd (upd H17 dx3 (.own r3)) r3 (.ins T.c_Rule dx3 [])) := (Same.new hdx3).trans (Same.new (by rw [upd_ne (Ne.symm hne3)]; exact hr3))
      refine ⟨r3, dx3, s0, _, false, false, st, rfl, upd_same, RRows.mono _ _ _ _ sB3 hK17, by omega, fun H18 f18 hI3 => ⟨rfl, ?_⟩⟩
      have s18 : Same H17 H18 := fun c o hc => f18 _ _ (ne_of_none hc hr3) (sB3 _ _ hc)
      have hI18 := rule_same s18 hI17
      have s118 := s117.trans s18
      obtain ⟨dxr, atr, h0r, _⟩ := id hI18
      obtain ⟨dxr2, atr2, h0r2, _⟩ := id hI3
      clear f18 sB3 hI17 hK17 s117
      refine ⟨r, _, _, _, rfl, h0r, T.o_Rule.tyx cF h0r2, first_self, r, s0, st, _, rfl, hI18, .inl ⟨r3, s0, st, rfl, hI3, fun H19 s19 => ⟨_, rfl, ?_⟩⟩⟩
      rw [decide_eq_true (⟨rfl, rfl⟩ : s0 = s0 ∧ st = st)]
      have hI19 := rule_same s19 hI18
      have s119 := s118.trans s19
      clear h0r h0r2 hI18 hI3 s118 s18 s19
      walk_at "go"
      -- rule == (start, kept)
      refine ⟨by show 2 ≤ sizeLine; decide, fun pt hpt => ?_⟩
      have s20 := Same.new (o := .tup [.int s0, .ref kp]) hpt
      have et20 : (upd H19 pt (.tup [.int s0, .ref kp])) pt = some (.tup [.int s0, .ref kp]) := upd_same
      generalize upd H19 pt (.tup [.int s0, .ref kp]) = H20 at s20 et20 ⊢
      have hI20 := rule_same s20 hI19
      have s120 := s119.trans s20
      clear hI19 s119 s20
      obtain ⟨dxr, atr, h0r, _⟩ := id hI20
      refine ⟨r, _, _, _, rfl, h0r, tyx_tup (SqT.of et20), first_no T.o_Rule.sT, r, s0, st, _, rfl, hI20, .inr ⟨"tuple", tyx_tup (SqT.of et20), T.o_Rule.sT, _, rfl, ?_⟩⟩
      walk_at "go"
      refine ⟨r, _, _, _, rfl, h0r, .base (.int 5), first_no T.o_Rule.sI, r, s0, st, _, rfl, hI20, .inr ⟨"int", .base (.int 5), T.o_Rule.sI, _, rfl, ?_⟩⟩
      walk_at "go"
      refine ⟨r, _, _, _, rfl, h0r, .base (.str _), first_no T.o_Rule.sS, r, s0, st, _, rfl, hI20, .inr ⟨"str", .base (.str _), T.o_Rule.sS, _, rfl, ?_⟩⟩
      walk_at "go"
      exact ⟨_, _, _, _, _, _, _, _, _, _, _, _, _, _, _, _, _, _, _, rfl, (sm.trans s1).trans s120⟩
    · rintro σ H' ⟨y1, y2, y3, y4, y5, y6, y7, y8, y9, y10, y11, y12, y13, y14, y15, y16, y17, y18, y19, rfl, sm⟩
      walk_at "go"
      exact k _

end
theorem all_mk {l : PySem.W.OpenLaw} {w : World} {K : PySem.W.Frag} {h : Heap} {mg : Str → Option Value} {fa CRule fRule___init__ fRule___eq__ fRule_after fRule_lets fL_numbers fL_same fL_steps fL_after flaw : Addr} (X : K.In h) (G : h.Ns mainGlobals mg) (hfa : mg "law" = some (.ref fa))
    {odRule___init__ anRule___init__ odRule___eq__ anRule___eq__ odRule_after anRule_after odRule_lets anRule_lets odL_numbers anL_numbers odL_same anL_same odL_steps anL_steps odL_after anL_after odlaw anlaw : Option Addr} {slRule___init__ slRule___eq__ slRule_after slRule_lets slL_numbers slL_same slL_steps slL_after sllaw : Array (Option Value)} {ocRule___init__ kVRule___init__ dcRule___init__ pmRule___init__ cdRule___init__ ctRule___init__ ocRule___eq__ kVRule___eq__ dcRule___eq__ pmRule___eq__ cdRule___eq__ ctRule___eq__ ocRule_after kVRule_after dcRule_after pmRule_after cdRule_after ctRule_after ocRule_lets kVRule_lets dcRule_lets pmRule_lets cdRule_lets ctRule_lets ocL_numbers kVL_numbers dcL_numbers pmL_numbers cdL_numbers ctL_numbers ocL_same kVL_same dcL_same pmL_same cdL_same ctL_same ocL_steps kVL_steps dcL_steps pmL_steps cdL_steps ctL_steps ocL_after kVL_after dcL_after pmL_after cdL_after ctL_after oclaw kVlaw dclaw pmlaw cdlaw ctlaw : Value}
    (aCRule : PySem.W.nsIn K mainGlobals "Rule" = some (some (.ref CRule))) (pgRule : PySem.W.plainGet K CRule Str.empty = true) (hdRule : PySem.W.hasDictIn K CRule = true) (poRule : PySem.W.plainOver K CRule = true) (saRule : PySem.W.findIn K (.ref CRule) "__setattr__" = some (some (.builtin "object.__setattr__"))) (mkRule : PySem.W.makesIn K CRule = true) (kcRule : PySem.W.keepIn K (.ref CRule) = true)
    (nRule_start : PySem.W.findIn K (.ref CRule) "start" = some none)
    (nRule_steps : PySem.W.findIn K (.ref CRule) "steps" = some none)
    (ow1Rule : PySem.W.findIn K (.ref CRule) "__class__" = some (some (.builtin "object.__class__"))) (ow2Rule : PySem.W.specialIn K (.builtin "object.__class__") "__get__" = some (some (.builtin "getset_descriptor.__get__"))) (ow3Rule : PySem.W.takesIn K (.builtin "object.__class__") = some true) (ow4Rule : PySem.W.mroIn K CRule (.type "object") = some true) (ow5Rule : PySem.W.isClsIn K CRule = true) (ow6Rule : PySem.W.typeIn K (.ref CRule) = some (.type "type")) (ow7Rule : PySem.W.subIn K (.type "tuple") (.ref CRule) = some false) (ow8Rule : PySem.W.subIn K (.type "int") (.ref CRule) = some false) (ow9Rule : PySem.W.subIn K (.type "str") (.ref CRule) = some false) (ownRule : PySem.W.findIn K (.ref CRule) "__ne__" = some (some (.builtin "object.__ne__")))
    (aRule___init__ : PySem.W.findIn K (.ref CRule) "__init__" = some (some (.ref fRule___init__))) (iRule___init__ : PySem.W.isFn K (.ref fRule___init__) = true) (lRule___init__ : K.lookup fRule___init__ = some ⟨ocRule___init__, odRule___init__, .func (PySem.W.fnOf "__init__" "Rule.__init__" (defArgs s_Rule___init__) (defBody s_Rule___init__) (defScope s_Rule___init__) .none kVRule___init__ dcRule___init__ pmRule___init__ anRule___init__ cdRule___init__ ctRule___init__), slRule___init__⟩) (cRule___init__ : PySem.W.codeIn K cdRule___init__ "Rule.__init__" = true) (kRule___init__ : PySem.W.keepIn K (.ref fRule___init__) = true)
    (aRule___eq__ : PySem.W.findIn K (.ref CRule) "__eq__" = some (some (.ref fRule___eq__))) (iRule___eq__ : PySem.W.isFn K (.ref fRule___eq__) = true) (lRule___eq__ : K.lookup fRule___eq__ = some ⟨ocRule___eq__, odRule___eq__, .func (PySem.W.fnOf "__eq__" "Rule.__eq__" (defArgs s_Rule___eq__) (defBody s_Rule___eq__) (defScope s_Rule___eq__) .none kVRule___eq__ dcRule___eq__ pmRule___eq__ anRule___eq__ cdRule___eq__ ctRule___eq__), slRule___eq__⟩) (cRule___eq__ : PySem.W.codeIn K cdRule___eq__ "Rule.__eq__" = true) (kRule___eq__ : PySem.W.keepIn K (.ref fRule___eq__) = true)
    (aRule_after : PySem.W.findIn K (.ref CRule) "after" = some (some (.ref fRule_after))) (iRule_after : PySem.W.isFn K (.ref fRule_after) = true) (lRule_after : K.lookup fRule_after = some ⟨ocRule_after, odRule_after, .func (PySem.W.fnOf "after" "Rule.after" (defArgs s_Rule_after) (defBody s_Rule_after) (defScope s_Rule_after) .none kVRule_after dcRule_after pmRule_after anRule_after cdRule_after ctRule_after), slRule_after⟩) (cRule_after : PySem.W.codeIn K cdRule_after "Rule.after" = true) (kRule_after : PySem.W.keepIn K (.ref fRule_after) = true)
    (aRule_lets : PySem.W.findIn K (.ref CRule) "lets" = some (some (.ref fRule_lets))) (iRule_lets : PySem.W.isFn K (.ref fRule_lets) = true) (lRule_lets : K.lookup fRule_lets = some ⟨ocRule_lets, odRule_lets, .func (PySem.W.fnOf "lets" "Rule.lets" (defArgs s_Rule_lets) (defBody s_Rule_lets) (defScope s_Rule_lets) .none kVRule_lets dcRule_lets pmRule_lets anRule_lets cdRule_lets ctRule_lets), slRule_lets⟩) (cRule_lets : PySem.W.codeIn K cdRule_lets "Rule.lets" = true) (kRule_lets : PySem.W.keepIn K (.ref fRule_lets) = true)
    (aL_numbers : PySem.W.nsIn K mainGlobals "_law_numbers" = some (some (.ref fL_numbers))) (lL_numbers : K.lookup fL_numbers = some ⟨ocL_numbers, odL_numbers, .func (PySem.W.fnOf "_law_numbers" "_law_numbers" (defArgs s_L_numbers) (defBody s_L_numbers) (defScope s_L_numbers) .none kVL_numbers dcL_numbers pmL_numbers anL_numbers cdL_numbers ctL_numbers), slL_numbers⟩) (cL_numbers : PySem.W.codeIn K cdL_numbers "_law_numbers" = true) (kL_numbers : PySem.W.keepIn K (.ref fL_numbers) = true)
    (aL_same : PySem.W.nsIn K mainGlobals "_law_same" = some (some (.ref fL_same))) (lL_same : K.lookup fL_same = some ⟨ocL_same, odL_same, .func (PySem.W.fnOf "_law_same" "_law_same" (defArgs s_L_same) (defBody s_L_same) (defScope s_L_same) .none kVL_same dcL_same pmL_same anL_same cdL_same ctL_same), slL_same⟩) (cL_same : PySem.W.codeIn K cdL_same "_law_same" = true) (kL_same : PySem.W.keepIn K (.ref fL_same) = true)
    (aL_steps : PySem.W.nsIn K mainGlobals "_law_steps" = some (some (.ref fL_steps))) (lL_steps : K.lookup fL_steps = some ⟨ocL_steps, odL_steps, .func (PySem.W.fnOf "_law_steps" "_law_steps" (defArgs s_L_steps) (defBody s_L_steps) (defScope s_L_steps) .none kVL_steps dcL_steps pmL_steps anL_steps cdL_steps ctL_steps), slL_steps⟩) (cL_steps : PySem.W.codeIn K cdL_steps "_law_steps" = true) (kL_steps : PySem.W.keepIn K (.ref fL_steps) = true)
    (aL_after : PySem.W.nsIn K mainGlobals "_law_after" = some (some (.ref fL_after))) (lL_after : K.lookup fL_after = some ⟨ocL_after, odL_after, .func (PySem.W.fnOf "_law_after" "_law_after" (defArgs s_L_after) (defBody s_L_after) (defScope s_L_after) .none kVL_after dcL_after pmL_after anL_after cdL_after ctL_after), slL_after⟩) (cL_after : PySem.W.codeIn K cdL_after "_law_after" = true) (kL_after : PySem.W.keepIn K (.ref fL_after) = true)
    (alaw : PySem.W.nsIn K mainGlobals "law" = some (some (.ref flaw))) (llaw : K.lookup flaw = some ⟨oclaw, odlaw, .func (PySem.W.fnOf "law" "law" (defArgs s_law) (defBody s_law) (defScope s_law) .none kVlaw dclaw pmlaw anlaw cdlaw ctlaw), sllaw⟩) (claw : PySem.W.codeIn K cdlaw "law" = true) (klaw : PySem.W.keepIn K (.ref flaw) = true)
    (zabs : PySem.W.nsIn K mainGlobals "abs" = some none)
    (zbool : PySem.W.nsIn K mainGlobals "bool" = some none)
    (zint : PySem.W.nsIn K mainGlobals "int" = some none)
    (zisinstance : PySem.W.nsIn K mainGlobals "isinstance" = some none)
    (zlen : PySem.W.nsIn K mainGlobals "len" = some none)
    (zlist : PySem.W.nsIn K mainGlobals "list" = some none)
    (zmin : PySem.W.nsIn K mainGlobals "min" = some none)
    (zrange : PySem.W.nsIn K mainGlobals "range" = some none)
    (zstr : PySem.W.nsIn K mainGlobals "str" = some none)
    (ztuple : PySem.W.nsIn K mainGlobals "tuple" = some none)
    : ∃ fd : FuncData, (∀ (s : Shared) (v : Value), BindsTo s fd ⟨[v], []⟩ [("_law_script", v)]) ∧ ∀ base : Heap, K.In base → base.Ns mainGlobals mg → FnOk l.prog w K mg base CX0 4 fa fd ["_law_script"] (sp_law K) := by
  have e := hfa.symm.trans (PySem.W.mg_of X G alaw)
  cases e
  have FRule___init__ := fun_mk (st := s_Rule___init__) lRule___init__ cRule___init__ kRule___init__
  have bRule___init__ := FRule___init__.binds (ps := ["self", "start", "steps"]) fun _ _ _ _ _ _ us hl => match us, hl with | [_, _, _], _ => rfl
  have FRule___eq__ := fun_mk (st := s_Rule___eq__) lRule___eq__ cRule___eq__ kRule___eq__
  have bRule___eq__ := FRule___eq__.binds (ps := ["self", "other"]) fun _ _ _ _ _ _ us hl => match us, hl with | [_, _], _ => rfl
  have FRule_after := fun_mk (st := s_Rule_after) lRule_after cRule_after kRule_after
  have bRule_after := FRule_after.binds (ps := ["self", "text"]) fun _ _ _ _ _ _ us hl => match us, hl with | [_, _], _ => rfl
  have FRule_lets := fun_mk (st := s_Rule_lets) lRule_lets cRule_lets kRule_lets
  have bRule_lets := FRule_lets.binds (ps := ["self", "text", "letter"]) fun _ _ _ _ _ _ us hl => match us, hl with | [_, _, _], _ => rfl
  have FL_numbers := fun_mk (st := s_L_numbers) lL_numbers cL_numbers kL_numbers
  have bL_numbers := FL_numbers.binds (ps := ["_law_cell", "_law_at", "_law_many"]) fun _ _ _ _ _ _ us hl => match us, hl with | [_, _, _], _ => rfl
  have FL_same := fun_mk (st := s_L_same) lL_same cL_same kL_same
  have bL_same := FL_same.binds (ps := ["_law_actual", "_law_expected"]) fun _ _ _ _ _ _ us hl => match us, hl with | [_, _], _ => rfl
  have FL_steps := fun_mk (st := s_L_steps) lL_steps cL_steps kL_steps
  have bL_steps := FL_steps.binds (ps := ["_law_numbers_here", "_law_states", "_law_letters"]) fun _ _ _ _ _ _ us hl => match us, hl with | [_, _, _], _ => rfl
  have FL_after := fun_mk (st := s_L_after) lL_after cL_after kL_after
  have bL_after := FL_after.binds (ps := ["_law_start", "_law_steps_here", "_law_text"]) fun _ _ _ _ _ _ us hl => match us, hl with | [_, _, _], _ => rfl
  have Flaw := fun_mk (st := s_law) llaw claw klaw
  have blaw := Flaw.binds (ps := ["_law_script"]) fun _ _ _ _ _ _ us hl => match us, hl with | [_], _ => rfl
  let T : Txt K mg := { c_Rule := _, C_Rule := ⟨pgRule, hdRule, poRule, saRule⟩, gc_Rule := PySem.W.mg_of X G aCRule, n_Rule_start := nRule_start, n_Rule_steps := nRule_steps, o_Rule := ⟨ow1Rule, ow2Rule, ow3Rule, ow4Rule, ow5Rule, ow6Rule, ow7Rule, ow8Rule, ow9Rule⟩, a_Rule___init__ := _, d_Rule___init__ := _, F_Rule___init__ := FRule___init__, b_Rule___init__ := bRule___init__, M_Rule := ⟨mkRule, aRule___init__, iRule___init__, kcRule⟩, a_Rule___eq__ := _, d_Rule___eq__ := _, F_Rule___eq__ := FRule___eq__, b_Rule___eq__ := bRule___eq__, m_Rule___eq__ := ⟨aRule___eq__, iRule___eq__, kRule___eq__⟩, e_Rule := ⟨aRule___eq__, iRule___eq__, ownRule, ow4Rule⟩, a_Rule_after := _, d_Rule_after := _, F_Rule_after := FRule_after, b_Rule_after := bRule_after, m_Rule_after := ⟨aRule_after, iRule_after, kRule_after⟩, a_Rule_lets := _, d_Rule_lets := _, F_Rule_lets := FRule_lets, b_Rule_lets := bRule_lets, m_Rule_lets := ⟨aRule_lets, iRule_lets, kRule_lets⟩, a_L_numbers := _, d_L_numbers := _, F_L_numbers := FL_numbers, b_L_numbers := bL_numbers, g_L_numbers := PySem.W.mg_of X G aL_numbers, a_L_same := _, d_L_same := _, F_L_same := FL_same, b_L_same := bL_same, g_L_same := PySem.W.mg_of X G aL_same, a_L_steps := _, d_L_steps := _, F_L_steps := FL_steps, b_L_steps := bL_steps, g_L_steps := PySem.W.mg_of X G aL_steps, a_L_after := _, d_L_after := _, F_L_after := FL_after, b_L_after := bL_after, g_L_after := PySem.W.mg_of X G aL_after, a_law := _, d_law := _, F_law := Flaw, b_law := blaw, g_law := PySem.W.mg_of X G alaw, z_abs := PySem.W.mg_none_of X G zabs, z_bool := PySem.W.mg_none_of X G zbool, z_int := PySem.W.mg_none_of X G zint, z_isinstance := PySem.W.mg_none_of X G zisinstance, z_len := PySem.W.mg_none_of X G zlen, z_list := PySem.W.mg_none_of X G zlist, z_min := PySem.W.mg_none_of X G zmin, z_range := PySem.W.mg_none_of X G zrange, z_str := PySem.W.mg_none_of X G zstr, z_tuple := PySem.W.mg_none_of X G ztuple }
  exact ⟨_, fun s v => .of_eq rfl, fun base _ _ => ok_law (P := l.prog) (w := w) (base := base) T⟩
theorem walk {l : PySem.W.OpenLaw} {q : Program} {loose : List Str} {XP : (Str → Option Value) → Heap → Prop} {YP : World → Heap → Prop} {d : DefRec} {K : Params → PySem.W.Frag} (hn : l.most = some 63) (hdf : d.params.defaults = [])
    (hY : ∀ (w : World) (h : Heap), YP w h → (K w.params).In h)
    (F : ∀ (w : World) (mg : Str → Option Value) (fa : Addr) (h : Heap), (K w.params).In h → h.Ns mainGlobals mg → mg d.name = some (.ref fa) →
      ∃ fd : FuncData, (∀ (s : Shared) (u : Value), BindsTo s fd ⟨[u], []⟩ [("_law_script", u)]) ∧ ∀ base : Heap, (K w.params).In base → base.Ns mainGlobals mg → FnOk l.prog w (K w.params) mg base CX0 4 fa fd ["_law_script"] (sp_law (K w.params))) :
    PySem.W.WalkO q loose XP YP l.row.toRowW d [] (fun f vs => PySem.call f vs) :=
  L2.walk_of (n := 63) (k := 4) (x := "_law_script") (CX := fun _ => CX0) (sp := fun w => sp_law (K w.params)) hn (by decide) hdf ⟨rfl, by decide, by decide⟩ hY F (fun _ _ a ns hl _ hS => ⟨a, ns, rfl, hS, hl, fun _ => rfl⟩) fun _ _ _ _ _ z => z
end My

open PySem PySem.W PyProof.Rows
set_option maxRecDepth 100000 in
set_option maxHeartbeats 0 in
theorem PySem.Challenge.cw_servedalone_k04_rules_holds : PySem.Challenge.rw_servedalone_k04_rules.Holds := by
  w_on; o_law; k_head; (case hw => w_witness2)
  k_fill
  refine My.walk (l := PySem.Challenge.rw_servedalone_k04_rules) rfl rfl (fun w h Y => PySem.W.kIn_of Y) ?F
  case F =>
    intro w mg fa h KX G hmg
    refine' My.all_mk KX G hmg ?aCRule ?pgRule ?hdRule ?poRule ?saRule ?mkRule ?kcRule ?nRule_start ?nRule_steps ?ow1Rule ?ow2Rule ?ow3Rule ?ow4Rule ?ow5Rule ?ow6Rule ?ow7Rule ?ow8Rule ?ow9Rule ?ownRule ?aRule___init__ ?iRule___init__ ?lRule___init__ ?cRule___init__ ?kRule___init__ ?aRule___eq__ ?iRule___eq__ ?lRule___eq__ ?cRule___eq__ ?kRule___eq__ ?aRule_after ?iRule_after ?lRule_after ?cRule_after ?kRule_after ?aRule_lets ?iRule_lets ?lRule_lets ?cRule_lets ?kRule_lets ?aL_numbers ?lL_numbers ?cL_numbers ?kL_numbers ?aL_same ?lL_same ?cL_same ?kL_same ?aL_steps ?lL_steps ?cL_steps ?kL_steps ?aL_after ?lL_after ?cL_after ?kL_after ?alaw ?llaw ?claw ?klaw ?zabs ?zbool ?zint ?zisinstance ?zlen ?zlist ?zmin ?zrange ?zstr ?ztuple
    (case aCRule => k_is)
    (case pgRule => k_is)
    (case hdRule => k_is)
    (case poRule => k_is)
    (case saRule => k_is)
    (case mkRule => k_is)
    (case kcRule => k_is)
    (case nRule_start => k_is)
    (case nRule_steps => k_is)
    (case ow1Rule => k_is)
    (case ow2Rule => k_is)
    (case ow3Rule => k_is)
    (case ow4Rule => k_is)
    (case ow5Rule => k_is)
    (case ow6Rule => k_is)
    (case ow7Rule => k_is)
    (case ow8Rule => k_is)
    (case ow9Rule => k_is)
    (case ownRule => k_is)
    (case aRule___init__ => k_is)
    (case iRule___init__ => k_is)
    (case lRule___init__ => k_is)
    (case cRule___init__ => k_is)
    (case kRule___init__ => k_is)
    (case aRule___eq__ => k_is)
    (case iRule___eq__ => k_is)
    (case lRule___eq__ => k_is)
    (case cRule___eq__ => k_is)
    (case kRule___eq__ => k_is)
    (case aRule_after => k_is)
    (case iRule_after => k_is)
    (case lRule_after => k_is)
    (case cRule_after => k_is)
    (case kRule_after => k_is)
    (case aRule_lets => k_is)
    (case iRule_lets => k_is)
    (case lRule_lets => k_is)
    (case cRule_lets => k_is)
    (case kRule_lets => k_is)
    (case aL_numbers => k_is)
    (case lL_numbers => k_is)
    (case cL_numbers => k_is)
    (case kL_numbers => k_is)
    (case aL_same => k_is)
    (case lL_same => k_is)
    (case cL_same => k_is)
    (case kL_same => k_is)
    (case aL_steps => k_is)
    (case lL_steps => k_is)
    (case cL_steps => k_is)
    (case kL_steps => k_is)
    (case aL_after => k_is)
    (case lL_after => k_is)
    (case cL_after => k_is)
    (case kL_after => k_is)
    (case alaw => k_is)
    (case llaw => k_is)
    (case claw => k_is)
    (case klaw => k_is)
    (case zabs => k_is)
    (case zbool => k_is)
    (case zint => k_is)
    (case zisinstance => k_is)
    (case zlen => k_is)
    (case zlist => k_is)
    (case zmin => k_is)
    (case zrange => k_is)
    (case zstr => k_is)
    (case ztuple => k_is)
#print axioms PySem.Challenge.cw_servedalone_k04_rules_holds
