import PyProof.Rows.All
import Wide.All
import OpenK.AllK
import Wide.FinOn
import HandS.ForMost
import HandS.Walk
import HandS.IsInst
import HandS.Evl
import HandS.Property
import HandS.WideBits
import HandS.Conv
import HandS.TupAny
import HandS.MakeKwOnly
import PyProof.InstNe
import KE.KTupSum
import KE.GoesMore
import KE.GoesEnum
import KE.GoesZip
import PySem.Challenge.RW_servedalone_k59_next_shares_and_texts
set_option Elab.async false
set_option linter.all false
set_option maxRecDepth 100000
set_option maxHeartbeats 4000000
namespace L2
open PySem PySem.Spec PyProof.Rows

/-! ### own rules: either of two readings; sums, enumerate and walks of lists or tuples -/
theorem PI.or {X : Cx} {tg iter : Expr} {w1 w2 : TI} (h1 : PI X tg iter w1) (h2 : PI X tg iter w2) : PI X tg iter (fun σ H R => w1 σ H R ∨ w2 σ H R) := by
  refine ⟨fun pins s σ H R I h => ?_⟩
  rcases h with h | h
  · exact h1.run pins s σ H R I h
  · exact h2.run pins s σ H R I h

section
variable {X : Cx}
def rAddG (K : PySem.W.Frag) : R2 := fun x y H Q => (rI0 fun i j => .int (i + j)) x y H Q ∨ rCatT K x y H Q ∨ rCat x y H Q
theorem op_addG : OpR X (binaryOp .Add) (rAddG X.K) := op_add.or (op_catT.or op_cat)
def rEqG (K : PySem.W.Frag) : R2 := fun x y H Q => rEq x y H Q ∨ rEqD K x y H Q
def rNeG (K : PySem.W.Frag) : R2 := fun x y H Q => rNe x y H Q ∨ rNeD K x y H Q
theorem op_eqG (hu : X.A.units + 64 < cLine) : OpR X (compareOp .Eq) (rEqG X.K) := op_eq.or (op_eqD hu)
theorem op_neG (hu : X.A.units + 64 < cLine) : OpR X (compareOp .NotEq) (rNeG X.K) := op_ne.or (op_neD hu)
def rSlG (K : PySem.W.Frag) : V → Option Int → Option Int → Hp → VK → Prop := fun x lo hi H Q => rSlL K x lo hi H Q ∨ rSlA K x lo hi H Q
theorem sl_seqG : SlR X (rSlG X.K) := sl_list.or sl_tupA
def rSumS (K : PySem.W.Frag) : List V → Hp → VK → Prop := fun vs H Q => ∃ (a : Addr) (ns : List Int), vs = [V.ref a] ∧ (SqL K H a (ns.map V.int) ∨ SqT K H a (ns.map V.int)) ∧ Q (.int ns.sum) H
theorem cr_sumS (hc : X.calm = true) : CallR X (.builtin "sum") (rSumS X.K) := by
  intro pins s σ H vs us Q I r h
  obtain ⟨a, ns, rfl, hs, q⟩ := h
  rw [Vals.ref1 r]
  rcases hs with hs | hs
  · obtain ⟨its, rv, hl, _⟩ := I.list hs
    exact sum_raw (I.ok.hd hc) hl.isList rv.ints fun h' tk t' hk => ⟨.int _, H, I.kept hk, ⟨_, rfl⟩, q⟩
  · obtain ⟨its, rv, ht, _⟩ := I.tuple hs
    have hi := rv.ints
    obtain ⟨xs, e⟩ := hi.allInts.items
    have hn : numsOf (intItems xs).toList = ns := by rw [← e]; exact hi.numsOf
    rw [nums_intItems] at hn
    have ht' : s.heap.IsTuple a its.toArray := ht
    rw [e] at ht'
    refine PySem.W.ktm_sumG (I.ok.hd hc) ht' fun h' tk t' hk => ⟨.int ns.sum, H, I.kept hk, ⟨t', ?_⟩, q⟩
    rw [preSum_eq, List.take_of_length_le (by simp), hn]

end

/-! ### enumerate(tuple) -/
def IteT (K : PySem.W.Frag) (a : Addr) : It :=
  ⟨fun i H => ∃ (xs : List V) (x : V), SqT K H a xs ∧ xs[i]? = some x, fun i H v H' => ∃ T x, v = .ref T ∧ H T = none ∧ H' = upd H T (.tup [.int (i : Nat), x]) ∧ ∀ xs, SqT K H a xs → xs[i]? = some x, fun i H => ∃ xs : List V, SqT K H a xs ∧ xs.length ≤ i⟩
theorem tup_ne_iter {h : Heap} {a it : Addr} {items : Array Value} {i : Nat} (p : IsTup h a items) (q : h.IsTupleIter it a i) : a ≠ it := by
  obtain ⟨o, ho, hc, _⟩ := p
  obtain ⟨o', ho', hc', _⟩ := q
  intro e
  subst e
  rw [ho] at ho'
  cases ho'
  rw [hc] at hc'
  exact absurd hc' (by decide)
theorem meets_enumerate_newT (l : Addr) (items : Array Value) :
    Meets (Builtin.«enumerate.__new__» ⟨[.type "enumerate", .ref l], []⟩) (fun _ R s => s.heap.IsTuple l items ∧
      R (.ok (.ret (.ref (s.heap.push { cls := .type "tuple_iterator", data := .fields #[.ref l, .int 0 0] }).objs.size)))
        { s with heap := (s.heap.push { cls := .type "tuple_iterator", data := .fields #[.ref l, .int 0 0] }).push { cls := .type "enumerate", data := .fields #[.none, .bool false, .ref s.heap.objs.size, rawInt 0, .none, .none] } }) :=
  .of_wp fun prog w A R s h => by
    obtain ⟨hp, g, d, tk, os⟩ := s; obtain ⟨h1, h⟩ := h
    have hsub := sub_enumerate
    have q1 : ∀ {A' : Around} {E : Value → Shared → Prop} {Q : Value → Shared → Prop}, Q (.ref hp.objs.size) ⟨hp.push { cls := .type "tuple_iterator", data := .fields #[.ref l, .int 0 0] }, g, d, tk, os⟩ → wpAny (model prog w) A' (pyIter (.ref l)) Q E ⟨hp, g, d, tk, os⟩ :=
      fun q => wpAny_pyIter_tuple (s := ⟨hp, g, d, tk, os⟩) h1 q
    wp_walk using q1
    refine wpAny_stack_any fun st => wpAny_pure ?_
    split
    · rename_i c _ _ _ _ _
      cases (c == Value.type "enumerate")
      · wp_walk using q1
        exact ⟨_, rfl, h⟩
      · wp_walk using q1
        exact ⟨_, rfl, h⟩
    · wp_walk using q1
      exact ⟨_, rfl, h⟩
theorem call_enumerate_tup {prog : Program} {w : World} {A : Around} {E : Value → Shared → Prop} {s : Shared} {l : Addr} {items : Array Value} {Q : Value → Shared → Prop} (hL : s.heap.IsTuple l items)
    (h : ∀ h', IsEnum h' (s.heap.objs.size + 1) s.heap.objs.size 0 .none → h'.IsTupleIter s.heap.objs.size l 0 → h'.objs.size = s.heap.objs.size + 2 →
      (∀ b o, s.heap.get? b = some o → h'.get? b = some o) → Q (.ref (s.heap.objs.size + 1)) { s with heap := h' }) :
    wpAny (model prog w) A (call (.type "enumerate") [.ref l]) Q E s := by
  refine callType_new F.called_enumerate (by decide) (F.typeCall_enumerate_1 _) (F.newCall_enumerate_1 _) (fun obj => F.args_object_init_2 obj _) F.entry_enumerate_new
    (meets_enumerate_newT l items) ⟨hL, ?_⟩
  have hz : (s.heap.push { cls := .type "tuple_iterator", data := .fields #[.ref l, .int 0 0] }).objs.size = s.heap.objs.size + 1 := Heap.size_push ..
  show _ ∧ _
  rw [hz]
  have he : IsEnum ((s.heap.push { cls := .type "tuple_iterator", data := .fields #[.ref l, .int 0 0] }).push
      { cls := .type "enumerate", data := .fields #[.none, .bool false, .ref s.heap.objs.size, rawInt 0, .none, .none] }) (s.heap.objs.size + 1) s.heap.objs.size 0 .none := by
    have := Heap.get?_push_size (s.heap.push { cls := .type "tuple_iterator", data := .fields #[.ref l, .int 0 0] })
      (o := { cls := .type "enumerate", data := .fields #[.none, .bool false, .ref s.heap.objs.size, rawInt 0, .none, .none] }) rfl
    rw [hz] at this; exact this
  refine ⟨⟨_, he, rfl⟩, h _ he ⟨_, Heap.get?_push_of_some _ (Heap.get?_push_size _ rfl), rfl, rfl⟩ (by rw [Heap.size_push, hz]) fun b o x => Heap.get?_push_of_some _ (Heap.get?_push_of_some _ x)⟩
theorem turn_enumT {P : Program} {w : World} {K : PySem.W.Frag} {elts : List Expr} {kk : Nat} {tpos : Pos} (a e it : Addr) :
    Turn P w K (.Tuple elts kk tpos) (IteT K a) [e, it] e (fun i h => (∃ old, IsEnum h e it ((i : Nat) : Int) old) ∧ h.IsTupleIter it a i ∧ e ≠ it) where
  mem := by simp
  obj := fun i h st b hb => by
    obtain ⟨⟨old, he⟩, ⟨o, ho, hc, hd⟩, _⟩ := st
    have e' : b = e ∨ b = it := by simpa using hb
    rcases e' with z | z
    · rw [z]; exact ⟨_, he, fun v q => nomatch q⟩
    · rw [z]; exact ⟨o, ho, fun v q => by rw [hd] at q; cases q⟩
  keep := fun i h h' st k => let ⟨⟨old, he⟩, hi, hne⟩ := st; ⟨⟨old, k e (by simp) _ he⟩, hi.at fun o q => k it (by simp) o q, hne⟩
  item := by
    intro X hP hw hK hc i pins s σ H E I hf st hg
    subst hP hw hK
    obtain ⟨⟨old, he⟩, hit, hne⟩ := st
    obtain ⟨xs, x, hq, hx⟩ := hg
    obtain ⟨its, rv, p, hz⟩ := I.tuple hq
    obtain ⟨u, hu, ru⟩ := rv.get hx
    have hai : a ≠ it := tup_ne_iter p hit
    have hel : e < s.heap.objs.size := Heap.lt_size he
    have hil : it < s.heap.objs.size := by obtain ⟨_, q, _⟩ := hit; exact Heap.lt_size q
    have hal : a < s.heap.objs.size := by obtain ⟨_, q, _⟩ := p; exact Heap.lt_size q
    have hae : e ≠ a := by
      obtain ⟨o, ho, hcl, _⟩ := id p
      intro z
      rw [← z, he] at ho
      cases ho
      have hcl' : (Value.type "enumerate") = Value.type "tuple" := hcl
      exact absurd hcl' (by decide)
    have hlt : i < its.toArray.size := by
      have h1 := (List.getElem?_eq_some_iff.mp hu).1
      simpa using h1
    refine wpAny_pyNext_enum_itemD (Draws.tuple (prog := X.prog) (w := X.w) (A := X.A.in1) (show X.A.in1.handled = none from I.ok.hd hc) it a hai its.toArray) he ⟨hit, p⟩ hlt hne (by simp [hne, hae]) fun y h' tk hP ho st' hT hsz hk => ?_
    have ey : y = u := by
      have h1 : its.toArray[i]? = some y := hP
      have h2 : its.toArray[i]? = some u := by simpa using hu
      rw [h1] at h2
      exact Option.some.inj h2
    subst ey
    refine ⟨_, rfl, wpAny_letOwnedTupleGo_enum (s := { s with heap := h', toks := tk + 1 }) ho fun h'' he' sb => ?_⟩
    have hT2 : h''.get? s.heap.objs.size = some { cls := .type "tuple", data := .seq #[.int i tk, y] } := (sb.2 _ (Nat.ne_of_gt hel)).trans hT
    have new : ObjOk X.prog X.w (upd H s.heap.objs.size (.tup [.int (i : Nat), x])) h'' s.heap.objs.size (.tup [.int (i : Nat), x]) :=
      ⟨by show 2 ≤ sizeLine; decide, [.int i tk, y], .cons ⟨_, rfl⟩ (.cons ru .nil), ⟨_, hT2, rfl, _, rfl⟩⟩
    have I1 : Inv X pins σ (upd H s.heap.objs.size (.tup [.int (i : Nat), x])) { s with heap := h'', toks := tk + 1 } :=
      I.turnedNew (t' := tk + 1) (ch := [e, it]) (fun b ob hb q => (sb.2 b (fun z => hb (by simp [z]))).trans (hk b ob (fun z => hb (by simp [z])) (fun z => hb (by simp [z])) q)) hf (Nat.le_refl _) new
    refine ⟨.ref s.heap.objs.size, _, I1, rfl, ⟨_, x, rfl, I.hok.fresh (Nat.le_refl _), rfl, fun ys hy => by rw [I.tuple_inj hy hq]; exact hx⟩, ⟨⟨y, ?_⟩, st'.1.at fun o q => (sb.2 it (Ne.symm hne)).trans q, hne⟩, fun b hb => ?_⟩
    · have e1 : ((i + 1 : Nat) : Int) = (i : Int) + 1 := by omega
      rw [e1]; exact he'
    · have hb' : b < s.heap.objs.size := by
        have e' : b = e ∨ b = it := by simpa using hb
        rcases e' with z | z
        · rw [z]; exact hel
        · rw [z]; exact hil
      rw [upd_ne (Nat.ne_of_lt hb')]
      exact (hf b hb).1
  done := by
    intro X hP hw hK hc i pins s σ H E I hf st hg
    subst hP hw hK
    obtain ⟨⟨old, he⟩, hit, hne⟩ := st
    obtain ⟨xs, hq, hx⟩ := hg
    obtain ⟨its, rv, p, hz⟩ := I.tuple hq
    have hai : a ≠ it := tup_ne_iter p hit
    obtain ⟨f0, f1, f2, f3, f4, f5⟩ := hf it (by simp)
    have hl := rv.length
    unfold pyNext
    have hT : s.TypeIs (.ref e) "enumerate" := ⟨_, he, rfl⟩
    refine wpAny_bind (wpAny_attempt (wpAny_callSpecial?_slot (name := Str.ofString "__next__") hT F.slot_enumerate_next
      (wpAny_call_entry F.slot_enumerate_next hT F.entry_enumerate_next ?_ (F.args_enumerate_next_1 _))))
    show wpAny _ _ (field (.ref e) 2 >>= _) _ _ _
    refine wpAny_bind (wpAny_field he rfl (x := .ref it) rfl ?_)
    refine wpAny_bind (wpAny_nextOf_tuple_end (show X.A.in1.handled = none from I.ok.hd hc) hit p (by simp; omega) fun h' x he' hx' => ?_)
    obtain ⟨o, ho, hcx⟩ := hx'
    refine wpAny_bind (wpAny_isInstance (T := "StopIteration") (b := true) ⟨o, ho, hcx⟩ isSubtype_stop ?_)
    exact wpAny_pure ⟨rfl, I.turned (t' := s.toks) (fun b o hb q => he' b o hb q) f0 f1 f3 f4 f5⟩
  self := fun A i s Q E st h => let ⟨⟨_, he⟩, _⟩ := st; wpAny_pyIter_enum he h
def iEnumT (K : PySem.W.Frag) (ta : TA) : TI := fun σ H R => ta σ H fun vs H1 => ∃ a xs, vs = [.ref a] ∧ SqT K H1 a xs ∧ R (IteT K a) H1
theorem pi_enumT {X : Cx} {e : Expr} {ta : TA} {p pos tpos : Pos} {elts : List Expr} {kk : Nat} (hg : Gl X "enumerate") (hm : X.mg "enumerate" = none) (ha : PA X [e] ta) (hs : starEach [e] X.env = [(false, eval e X.env)] := by rfl) :
    PI X (.Tuple elts kk tpos) (.Call (.Name "enumerate" p) [e] [] pos) (iEnumT X.K ta) := by
  refine ⟨fun pins s σ H R I h => ?_⟩
  refine Call_ (ld_blt I hg hm boot_enumerate (PyProof.Rows.callWith_type1 (thn (ha.run pos pins s σ H _ I h) fun us s1 ⟨vs, H1, I1, r1, q1⟩ => ?_) hs rfl))
  obtain ⟨a, xs, ex, hq, q⟩ := q1
  subst ex
  cases r1 with
  | cons r rr =>
    cases rr
    cases r
    obtain ⟨its, rv, p', hz⟩ := I1.tuple hq
    refine call_enumerate_tup p' fun h' he hit hsz hk => wpAny_pyIter_enum he ?_
    have I2 : Inv X pins σ H1 { s1 with heap := h' } := I1.kept (t' := s1.toks) hk
    refine ⟨s1.heap.objs.size + 1, [s1.heap.objs.size + 1, s1.heap.objs.size], _, _, H1, rfl, I2, turn_enumT a (s1.heap.objs.size + 1) s1.heap.objs.size, ⟨⟨.none, he⟩, hit, Nat.succ_ne_self _⟩, fun b hb => ?_, q⟩
    have e' : b = s1.heap.objs.size + 1 ∨ b = s1.heap.objs.size := by simpa using hb
    have hle : s1.heap.objs.size ≤ b := by
      rcases e' with z | z
      · rw [z]; exact Nat.le_add_right _ _
      · rw [z]; exact Nat.le_refl _
    exact I1.fpOk hle (I1.hok.fresh hle)
theorem walk_enumT {K : PySem.W.Frag} {a : Addr} {xs : List V} : Walk (IteT K a) xs.length (fun H => SqT K H a xs) (YPair (fun i => some (.int (i : Nat))) (fun i => xs[i]?)) := by
  refine ⟨fun i _ hi q => ⟨xs, xs[i], q, by simp [hi]⟩, fun _ q => ⟨xs, q, Nat.le_refl _⟩, fun i H v H' _ q y => ?_⟩
  obtain ⟨T, x, h1, h2, h3, h4⟩ := y
  exact ⟨T, .int (i : Nat), x, h1, h2, h3, rfl, h4 xs q⟩
end L2

namespace L2
open PySem PySem.Spec PyProof.Rows

/-! ### names for readings -/
section
variable {X : Cx}
def rInt1 : List V → Hp → VK → Prop := fun xs H Q => (∃ i, xs = [.int i] ∧ Q (.int i) H) ∨ ∃ k, xs = [.bl k] ∧ Q (.int (if k then 1 else 0)) H
theorem cr_int1 : CallR X (.type "int") rInt1 := call_int1
def rAbs : List V → Hp → VK → Prop := fun xs H Q => ∃ i, xs = [.int i] ∧ Q (.int (if i < 0 then -i else i)) H
theorem cr_abs : CallR X (.builtin "abs") rAbs := call_abs
def rMax2 : List V → Hp → VK → Prop := fun xs H Q => ∃ i j, xs = [.int i, .int j] ∧ Q (.int (if j > i then j else i)) H
theorem cr_max2 (hc : X.calm = true) : CallR X (.builtin "max") rMax2 := call_max2 hc
def rMin2 : List V → Hp → VK → Prop := fun xs H Q => ∃ i j, xs = [.int i, .int j] ∧ Q (.int (if j < i then j else i)) H
theorem cr_min2 (hc : X.calm = true) : CallR X (.builtin "min") rMin2 := call_min2 hc
def rLenS (K : PySem.W.Frag) : List V → Hp → VK → Prop := fun xs H Q => ∃ p ys, xs = [.ref p] ∧ (SqL K H p ys ∨ SqT K H p ys) ∧ Q (.int ys.length) H
theorem cr_lenS : CallR X (.builtin "len") (rLenS X.K) := call_len_seq
def rListS (K : PySem.W.Frag) : List V → Hp → VK → Prop := fun xs H Q => ∃ p ys, xs = [.ref p] ∧ (SqL K H p ys ∨ SqT K H p ys) ∧ ∀ l, H l = none → Q (.ref l) (upd H l (.lst ys))
theorem cr_listS : CallR X (.type "list") (rListS X.K) := call_list_of
def rTupS (K : PySem.W.Frag) : List V → Hp → VK → Prop := fun xs H Q => ∃ p ys, xs = [.ref p] ∧ ((SqL K H p ys ∧ ∀ l, H l = none → Q (.ref l) (upd H l (.tup ys))) ∨ (SqT K H p ys ∧ Q (.ref p) H))
theorem cr_tupS : CallR X (.type "tuple") (rTupS X.K) := call_tuple_of
def rIsN : R2 := fun x y H Q => y = .non ∧ Q (.bl (decide (x = .non))) H
def rNotN : R2 := fun x y H Q => y = .non ∧ Q (.bl (!decide (x = .non))) H
theorem op_isNN : OpR X (compareOp .Is) rIsN := op_isN
theorem op_notNN : OpR X (compareOp .IsNot) rNotN := op_notN
def tTru (K : PySem.W.Frag) (ta : TE) : TT := fun σ H Q => ta σ H fun x H' => ∃ k, TruV K x H' k ∧ Q k H'
theorem pt_tru {a : Expr} {ta : TE} (ha : PE X a ta) (he : ∀ whole, isTrue a X.env whole = (do let v ← whole; standAt a.pos; holding [v] (truthy v))) : PT X a (tTru X.K ta) := pt_truth ha he
end

/-! ### the readings, one step each -/
def nth (ns : List Int) (i : Int) : Int := ns.getD i.toNat 0
theorem nth_at {ns : List Int} {i : Int} (h0 : 0 ≤ i) (h1 : i < ns.length) : atI (ns.map V.int) i = some (.int (nth ns i)) := by
  have e : i = ((i.toNat : Nat) : Int) := (Int.toNat_of_nonneg h0).symm
  have h2 : i.toNat < ns.length := by omega
  have g : (ns.map V.int)[i.toNat]? = some (.int (nth ns i)) := by
    rw [List.getElem?_map, List.getElem?_eq_getElem h2]
    unfold nth
    rw [List.getD_eq_getElem?_getD, List.getElem?_eq_getElem h2]
    rfl
  exact at_of e g
theorem nth_nat (ns : List Int) (i : Nat) : nth ns (i : Int) = ns.getD i 0 := rfl
theorem nth_mem {ns : List Int} {i : Int} (h0 : 0 ≤ i) (h1 : i < ns.length) : nth ns i ∈ ns := by
  have h2 : i.toNat < ns.length := by omega
  unfold nth
  rw [List.getD_eq_getElem?_getD, List.getElem?_eq_getElem h2]
  exact List.getElem_mem h2

theorem Same.seqT {K : PySem.W.Frag} {H H' : Hp} {a : Addr} {xs : List V} (e : Same H H') (h : SqT K H a xs) : SqT K H' a xs := by
  rcases h with (h | ⟨o, h⟩) | h
  · exact .inl (.inl (e _ _ h))
  · exact .inl (.inr ⟨o, e _ _ h⟩)
  · exact .inr h
/-- a list (true) or a tuple (false) -/
def Sq (b : Bool) (K : PySem.W.Frag) (H : Hp) (a : Addr) (xs : List V) : Prop := match b with
  | true => SqL K H a xs
  | false => SqT K H a xs
theorem Sq.or {b : Bool} {K : PySem.W.Frag} {H : Hp} {a : Addr} {xs : List V} (h : Sq b K H a xs) : SqL K H a xs ∨ SqT K H a xs := by
  cases b
  · exact .inr h
  · exact .inl h
theorem Sq.lst {K : PySem.W.Frag} {H : Hp} {a : Addr} {xs : List V} (h : H a = some (.lst xs)) : Sq true K H a xs := SqL.of h
theorem Sq.tup {K : PySem.W.Frag} {H : Hp} {a : Addr} {xs : List V} (h : H a = some (.tup xs)) : Sq false K H a xs := SqT.of h
theorem Same.sq {b : Bool} {K : PySem.W.Frag} {H H' : Hp} {a : Addr} {xs : List V} (e : Same H H') (h : Sq b K H a xs) : Sq b K H' a xs := by
  cases b
  · exact e.seqT h
  · exact e.seq h
theorem Same.at {H H' : Hp} {a : Addr} {o : HO} (e : Same H H') (h : H a = some o) : H' a = some o := e a o h
theorem Same.new {H : Hp} {p : Addr} {o : HO} (h : H p = none) : Same H (upd H p o) := fun b x e => by
  rw [upd_ne (ne_of_none e h)]
  exact e
theorem Same.mut {H H' : Hp} {p : Addr} {o : HO} (e : Same H H') (h : H p = none) : Same H (upd H' p o) := fun a u ha => by
  rw [upd_ne (ne_of_none ha h)]
  exact e a u ha

section
variable {K : PySem.W.Frag} {σ σ' : St} {H : Hp} {v x y : V} {ta tb te : TE} {t u : TS} {D : Ends} {c d : TT} {Q : VK} {QB : Bool → Hp → Prop} {QA : List V → Hp → Prop} {r : R2}
theorem go_start (e : σ = σ') (h : t D σ' H) : t D σ H := by rw [e]; exact h
-- values
theorem w_var {i : Nat} (h : σ[i]? = some (some v)) (q : Q v H) : tVar i σ H Q := ⟨v, h, q⟩
theorem w_c (q : Q v H) : tC v σ H Q := q
theorem w_op (q : ta σ H fun x H1 => tb σ H1 fun y H2 => r x y H2 Q) : tOp r ta tb σ H Q := q
theorem w_un {r : V → Hp → VK → Prop} (q : ta σ H fun x H1 => r x H1 Q) : tUn r ta σ H Q := q
theorem w_rU {g : Int → V} {i : Int} (q : Q (g i) H) : rU g (.int i) H Q := ⟨i, rfl, q⟩
theorem w_I0 {g : Int → Int → V} {i j : Int} (q : Q (g i j) H) : rI0 g (.int i) (.int j) H Q := ⟨i, j, rfl, rfl, q⟩
theorem w_I {C : Int → Int → Prop} {g : Int → Int → V} {i j : Int} (hc : C i j) (q : Q (g i j) H) : rI C g (.int i) (.int j) H Q := ⟨i, j, rfl, rfl, hc, q⟩
theorem w_addI {i j : Int} (q : Q (.int (i + j)) H) : rAddG K (.int i) (.int j) H Q := .inl ⟨i, j, rfl, rfl, q⟩
theorem w_eqI {i j : Int} (q : Q (.bl (decide (i = j))) H) : rEqG K (.int i) (.int j) H Q := .inl ⟨rfl, by
  have e : decide (V.int i = V.int j) = decide (i = j) := by
    rw [dec_int]
    by_cases h : i = j
    · subst h; simp
    · rw [decide_eq_false h]; exact beq_eq_false_iff_ne.mpr h
  rw [e]; exact q⟩
theorem w_neI {i j : Int} (q : Q (.bl (!decide (i = j))) H) : rNeG K (.int i) (.int j) H Q := .inl ⟨rfl, by
  have e : decide (V.int i = V.int j) = decide (i = j) := by
    rw [dec_int]
    by_cases h : i = j
    · subst h; simp
    · rw [decide_eq_false h]; exact beq_eq_false_iff_ne.mpr h
  rw [e]; exact q⟩
theorem w_eqS (hs : scal x y = true) (q : Q (.bl (decide (x = y))) H) : rEqG K x y H Q := .inl ⟨hs, q⟩
theorem w_eqD {d e : PyData} (hd : Dp K H x d) (he : Dp K H y e) (sd : SeqAt.shaped d = true) (se : SeqAt.shaped e = true) (q : Q (.bl (PyData.eqv d e)) H) : rEqG K x y H Q := .inr ⟨d, e, hd, he, sd, se, q⟩
theorem w_neD {d e : PyData} (hd : Dp K H x d) (he : Dp K H y e) (sd : SeqAt.shaped d = true) (se : SeqAt.shaped e = true) (q : Q (.bl (!PyData.eqv d e)) H) : rNeG K x y H Q := .inr ⟨d, e, hd, he, sd, se, q⟩
theorem w_isN (q : Q (.bl (decide (x = .non))) H) : rIsN x .non H Q := ⟨rfl, q⟩
theorem w_isNn (q : Q (.bl true) H) : rIsN .non .non H Q := ⟨rfl, q⟩
theorem w_isNi {i : Int} (q : Q (.bl false) H) : rIsN (.int i) .non H Q := ⟨rfl, q⟩
theorem w_isNb {b : Bool} (q : Q (.bl false) H) : rIsN (.bl b) .non H Q := ⟨rfl, q⟩
theorem w_isNs {z : Str} (q : Q (.bl false) H) : rIsN (.str z) .non H Q := ⟨rfl, q⟩
theorem w_isNr {a : Addr} (q : Q (.bl false) H) : rIsN (.ref a) .non H Q := ⟨rfl, q⟩
theorem w_notNn (q : Q (.bl false) H) : rNotN .non .non H Q := ⟨rfl, q⟩
theorem w_notNi {i : Int} (q : Q (.bl true) H) : rNotN (.int i) .non H Q := ⟨rfl, q⟩
theorem w_notNb {b : Bool} (q : Q (.bl true) H) : rNotN (.bl b) .non H Q := ⟨rfl, q⟩
theorem w_notNs {z : Str} (q : Q (.bl true) H) : rNotN (.str z) .non H Q := ⟨rfl, q⟩
theorem w_notNr {a : Addr} (q : Q (.bl true) H) : rNotN (.ref a) .non H Q := ⟨rfl, q⟩
theorem w_notN (q : Q (.bl (!decide (x = .non))) H) : rNotN x .non H Q := ⟨rfl, q⟩
theorem w_cb {r : List V → Hp → VK → Prop} {ta : TA} (q : ta σ H fun vs H1 => r vs H1 Q) : tCB r ta σ H Q := q
theorem w_aNil (q : QA [] H) : tNil σ H QA := q
theorem w_aCons {tr : TA} (q : ta σ H fun x H1 => tr σ H1 fun xs H2 => QA (x :: xs) H2) : tCons ta tr σ H QA := q
theorem w_int1 {i : Int} (q : Q (.int i) H) : rInt1 [.int i] H Q := .inl ⟨i, rfl, q⟩
theorem w_int1b {k : Bool} (q : Q (.int (if k then 1 else 0)) H) : rInt1 [.bl k] H Q := .inr ⟨k, rfl, q⟩
theorem w_abs {i : Int} (q : Q (.int (if i < 0 then -i else i)) H) : rAbs [.int i] H Q := ⟨i, rfl, q⟩
theorem w_max2 {i j : Int} (q : Q (.int (if j > i then j else i)) H) : rMax2 [.int i, .int j] H Q := ⟨i, j, rfl, q⟩
theorem w_min2 {i j : Int} (q : Q (.int (if j < i then j else i)) H) : rMin2 [.int i, .int j] H Q := ⟨i, j, rfl, q⟩
theorem w_lenS {p : Addr} {ys : List V} {b : Bool} (h : Sq b K H p ys) (q : Q (.int ys.length) H) : rLenS K [.ref p] H Q := ⟨p, ys, rfl, h.or, q⟩
theorem w_lenI {p : Addr} {ns : List Int} {b : Bool} (h : Sq b K H p (ns.map V.int)) (q : Q (.int ns.length) H) : rLenS K [.ref p] H Q := ⟨p, _, rfl, h.or, by rw [List.length_map]; exact q⟩
theorem w_sumI {p : Addr} {ns : List Int} {b : Bool} (h : Sq b K H p (ns.map V.int)) (q : Q (.int ns.sum) H) : rSumS K [.ref p] H Q := ⟨p, ns, rfl, h.or, q⟩
theorem w_listS {p : Addr} {ys : List V} {b : Bool} (h : Sq b K H p ys) (q : ∀ l, H l = none → Q (.ref l) (upd H l (.lst ys))) : rListS K [.ref p] H Q := ⟨p, ys, rfl, h.or, q⟩
theorem w_tupL {p : Addr} {ys : List V} (h : Sq true K H p ys) (q : ∀ l, H l = none → Q (.ref l) (upd H l (.tup ys))) : rTupS K [.ref p] H Q := ⟨p, ys, rfl, .inl ⟨h, q⟩⟩
theorem w_tupT {p : Addr} {ys : List V} (h : Sq false K H p ys) (q : Q (.ref p) H) : rTupS K [.ref p] H Q := ⟨p, ys, rfl, .inr ⟨h, q⟩⟩
theorem w_ix {b : Bool} {p : Addr} {xs : List V} {i : Int} (h : Sq b K H p xs) (ha : atI xs i = some v) (q : Q v H) : rIx K (.ref p) (.int i) H Q := by
  rcases h.or with h | h
  · exact .inl ⟨p, xs, i, v, rfl, rfl, h, ha, q⟩
  · exact .inr (.inl ⟨p, xs, i, v, rfl, rfl, h, ha, q⟩)
theorem w_ixI {b : Bool} {p : Addr} {ns : List Int} {i : Int} (h : Sq b K H p (ns.map V.int)) (h0 : 0 ≤ i) (h1 : i < ns.length) (q : Q (.int (nth ns i)) H) : rIx K (.ref p) (.int i) H Q := w_ix h (nth_at h0 h1) q
theorem w_tupD {ta : TA} (q : ta σ H fun xs H1 => xs.length ≤ sizeLine ∧ ∀ p, H1 p = none → Q (.ref p) (upd H1 p (.tup xs))) : tTup ta σ H Q := q
theorem w_lstD {ta : TA} (q : ta σ H fun xs H1 => xs.length ≤ sizeLine ∧ ∀ p, H1 p = none → Q (.ref p) (upd H1 p (.lst xs))) : tLst ta σ H Q := q
theorem w_call {sp : Sp} {dvs : List V} {E : XK} {ta : TA} (q : ta σ H fun vs H1 => sp (vs ++ dvs) H1 Q E) : tCall sp dvs E ta σ H Q := q
theorem w_andV (q : ta σ H fun x H1 => ∃ c, x = .bl c ∧ if c = true then tb σ H1 Q else Q (.bl false) H1) : tAndV ta tb σ H Q := q
theorem w_orV (q : ta σ H fun x H1 => ∃ c, x = .bl c ∧ if c = true then Q (.bl true) H1 else tb σ H1 Q) : tOrV ta tb σ H Q := q
theorem w_notV (q : ta σ H fun x H1 => ∃ c, x = .bl c ∧ Q (.bl (!c)) H1) : tNotV ta σ H Q := q
-- methods of lists
theorem w_bm {T : String} {r : V → List V → Hp → VK → Prop} {to : TE} {ta : TA} (q : to σ H fun x H1 => tyV K T x H1 ∧ ta σ H1 fun xs H2 => r x xs H2 Q) : tBM K T r to ta σ H Q := q
theorem w_append {l : Addr} {xs : List V} (h : H l = some (.lst xs)) (hz : xs.length < sizeLine) (q : Q .non (upd H l (.lst (xs ++ [y])))) : rAppend (.ref l) [y] H Q := ⟨l, xs, y, rfl, rfl, h, hz, q⟩
theorem w_tyL {l : Addr} {xs : List V} {B : Prop} (h : Sq true K H l xs) (q : B) : tyV K "list" (.ref l) H ∧ B := ⟨.inl ⟨rfl, _, h⟩, q⟩
-- tests
theorem w_test (q : ta σ H fun x H' => ∃ k, x = .bl k ∧ QB k H') : tTest ta σ H QB := q
theorem w_tB (q : ta σ H fun x H' => ∃ k, x = .bl k ∧ QB k H') : tB ta σ H QB := q
theorem w_tru (q : ta σ H fun x H' => ∃ k, TruV K x H' k ∧ QB k H') : tTru K ta σ H QB := q
theorem w_exb {b : Bool} {F : Bool → Prop} (q : F b) : ∃ k, V.bl b = .bl k ∧ F k := ⟨b, rfl, q⟩
theorem w_truB {b : Bool} {F : Bool → Prop} (q : F b) : ∃ k, TruV K (.bl b) H k ∧ F k := ⟨b, rfl, q⟩
theorem w_truI {i : Int} {F : Bool → Prop} (q : F (i != 0)) : ∃ k, TruV K (.int i) H k ∧ F k := ⟨_, rfl, q⟩
theorem w_not (q : c σ H fun b H1 => QB (!b) H1) : tNot c σ H QB := q
theorem w_and (q : c σ H fun b H1 => if b = true then d σ H1 QB else QB false H1) : tAnd c d σ H QB := q
theorem w_or (q : c σ H fun b H1 => if b = true then QB true H1 else d σ H1 QB) : tOr c d σ H QB := q
theorem w_ifE (q : c σ H fun b H1 => if b = true then ta σ H1 Q else tb σ H1 Q) : tIf c ta tb σ H Q := q
theorem w_iteD {p A B : Prop} {_ : Decidable p} (h1 : p → A) (h2 : ¬ p → B) : if decide p = true then A else B := by
  by_cases h : p
  · rw [if_pos (decide_eq_true h)]; exact h1 h
  · rw [if_neg (by simp [h])]; exact h2 h
theorem w_iteN {p A B : Prop} {_ : Decidable p} (h1 : ¬ p → A) (h2 : p → B) : if (!decide p) = true then A else B := by
  by_cases h : p
  · rw [if_neg (by simp [h])]; exact h2 h
  · rw [if_pos (by simp [h])]; exact h1 h
theorem w_iteNT {A B : Prop} (h : B) : if (!true) = true then A else B := h
theorem w_iteNF {A B : Prop} (h : A) : if (!false) = true then A else B := h
theorem w_iteB {b : Bool} {A B : Prop} (h1 : b = true → A) (h2 : b = false → B) : if b = true then A else B := by
  cases b
  · exact h2 rfl
  · exact h1 rfl
-- statements
variable {f b' c' : St → Hp → Prop} {rt : VK}
theorem w_seq (q : t ⟨u ⟨f, rt, b', c'⟩, rt, b', c'⟩ σ H) : tSeq t u ⟨f, rt, b', c'⟩ σ H := q
theorem w_asg {g : TG} (q : te σ H fun x H1 => g x σ H1 f) : tAsg te g ⟨f, rt, b', c'⟩ σ H := q
theorem w_gName {i : Nat} {N : St → Hp → Prop} (q : N (σ.set i (some v)) H) : gName i v σ H N := q
theorem w_drop (q : te σ H fun _ H1 => f σ H1) : tDrop te ⟨f, rt, b', c'⟩ σ H := q
theorem w_ret (q : te σ H rt) : tRet te ⟨f, rt, b', c'⟩ σ H := q
theorem w_retN (q : rt .non H) : tRetN ⟨f, rt, b', c'⟩ σ H := q
theorem w_ifS (q : c σ H fun b H1 => if b = true then t D σ H1 else u D σ H1) : tIfS c t u D σ H := q
theorem w_next (q : f σ H) : tNext ⟨f, rt, b', c'⟩ σ H := q
theorem w_brk (q : b' σ H) : tBreak ⟨f, rt, b', c'⟩ σ H := q
theorem w_cont (q : c' σ H) : tCont ⟨f, rt, b', c'⟩ σ H := q
theorem w_nx {f b c : St → Hp → Prop} {r : VK} (q : f σ H) : Ends.nx ⟨f, r, b, c⟩ σ H := q
theorem w_rt {f b c : St → Hp → Prop} {r : VK} (q : r v H) : Ends.rt ⟨f, r, b, c⟩ v H := q
theorem w_bk {f b c : St → Hp → Prop} {r : VK} (q : b σ H) : Ends.bk ⟨f, r, b, c⟩ σ H := q
theorem w_ct {f b c : St → Hp → Prop} {r : VK} (q : c σ H) : Ends.ct ⟨f, r, b, c⟩ σ H := q
theorem w_augI {i : Nat} {g : Int → Int → Int} {z : Int} (hx : σ[i]? = some (some (.int z))) (q : te σ H fun y H1 => ipI g (.int z) y H1 fun z H2 => f (σ.set i (some z)) H2) : tAug i te (ipI g) ⟨f, rt, b', c'⟩ σ H := ⟨_, hx, q⟩
theorem w_ipI {f : Int → Int → Int} {i j : Int} (q : Q (.int (f i j)) H) : ipI f (.int i) (.int j) H Q := ⟨i, j, rfl, rfl, q⟩
-- slices
theorem w_sl {r : V → Option Int → Option Int → Hp → VK → Prop} {tl th : TO} (q : te σ H fun x H1 => tl σ H1 fun l H2 => th σ H2 fun u H3 => r x l u H3 Q) : tSl r te tl th σ H Q := q
theorem w_noPart {QO : Option Int → Hp → Prop} (q : QO none H) : tNoPart σ H QO := q
theorem w_part {QO : Option Int → Hp → Prop} (q : te σ H fun x H1 => ∃ i, x = .int i ∧ QO (some i) H1) : tPart te σ H QO := q
theorem w_exi {i : Int} {F : Int → Prop} (q : F i) : ∃ k, V.int i = .int k ∧ F k := ⟨i, rfl, q⟩
theorem w_slL {a : Addr} {xs : List V} {lo hi : Option Int} (h : Sq true K H a xs) (q : ∀ p, H p = none → Q (.ref p) (upd H p (.lst (cutV xs lo hi)))) : rSlG K (.ref a) lo hi H Q := .inl ⟨a, xs, rfl, h, q⟩
-- loops
end
/-- what a for asks of its walk J -/
def LoopOk (J : It) (g : TG) (tb : TS) (D : Ends) (σ : St) (H : Hp) : Prop := ∃ W : Nat → Nat → St → Hp → Prop, (∃ m, W 0 m σ H) ∧ ∀ i m σ H, W i m σ H →
  (J.stop i H ∧ D.nx σ H) ∨ (J.go i H ∧ ∃ N : St → Hp → Prop, (∀ σ' H', N σ' H' → ∃ m', m' < m ∧ W (i + 1) m' σ' H') ∧ ∀ x H', J.yld i H x H' → g x σ H' fun σ2 H2 => tb { D with nx := N, ct := N, bk := D.nx } σ2 H2)
section
variable {K : PySem.W.Frag} {σ σ' : St} {H : Hp} {t : TS} {D : Ends} {g : TG} {f b' c' : St → Hp → Prop} {rt : VK}
theorem w_for {wi : TI} (q : wi σ H fun J H1 => LoopOk J g t D σ H1) : tFor wi g t D σ H := q
theorem w_iRng1 {ta : TA} {R : It → Hp → Prop} (q : ta σ H fun vs H1 => ∃ j : Int, vs = [.int j] ∧ -(2 ^ 62) ≤ j ∧ j < 2 ^ 62 ∧ R (Itr 0 j.toNat) H1) : iRng1 ta σ H R := q
theorem w_iRng2 {ta : TA} {R : It → Hp → Prop} (q : ta σ H fun vs H1 => ∃ i j : Int, vs = [.int i, .int j] ∧ (-(2 ^ 62) ≤ i ∧ i < 2 ^ 62 ∧ -(2 ^ 62) ≤ j ∧ j < 2 ^ 62) ∧ R (Itr i (j - i).toNat) H1) : iRng2 ta σ H R := q
theorem l_it {J : It} {n : Nat} {G : Hp → Prop} {Y : Nat → Hp → V → Hp → Prop} (w : Walk J n G Y) (Pv : Nat → St → Hp → Prop) (h0 : Pv 0 σ H) (hG : ∀ i σ H, i ≤ n → Pv i σ H → G H)
    (hs : ∀ i x σ H H', i < n → Pv i σ H → Y i H x H' → g x σ H' fun σ2 H2 => t ⟨Pv (i + 1), rt, f, Pv (i + 1)⟩ σ2 H2) (hd : ∀ σ H, Pv n σ H → f σ H) : LoopOk J g t ⟨f, rt, b', c'⟩ σ H := for_it w Pv h0 hG hs hd
/-- for k in range(n) -/
theorem l_range {n : Int} {k : Nat} (Pv : Nat → St → Hp → Prop) (h1 : -(2 ^ 62) ≤ n) (h2 : n < 2 ^ 62) (h0 : Pv 0 σ H)
    (hs : ∀ (i : Nat) σ' H', (i : Int) < n → Pv i σ' H' → t ⟨Pv (i + 1), rt, f, Pv (i + 1)⟩ (σ'.set k (some (.int (i : Int)))) H') (hd : ∀ σ' H', Pv n.toNat σ' H' → f σ' H') :
    ∃ j : Int, [V.int n] = [.int j] ∧ -(2 ^ 62) ≤ j ∧ j < 2 ^ 62 ∧ LoopOk (Itr 0 j.toNat) (gName k) t ⟨f, rt, b', c'⟩ σ H := by
  refine ⟨n, rfl, h1, h2, l_it walk_range Pv h0 (fun _ _ _ _ _ => trivial) (fun i x σ' H1 H2 hi hp hy => ?_) hd⟩
  obtain ⟨e, ex⟩ := hy
  subst e ex
  show gName k (V.int (0 + (i : Int))) σ' _ _
  rw [Int.zero_add]
  exact hs i σ' _ (by omega) hp
theorem l_range2 {lo n : Int} {k : Nat} (Pv : Nat → St → Hp → Prop) (h1 : -(2 ^ 62) ≤ lo ∧ lo < 2 ^ 62 ∧ -(2 ^ 62) ≤ n ∧ n < 2 ^ 62) (h0 : Pv 0 σ H)
    (hs : ∀ (i : Nat) σ' H', lo + (i : Int) < n → Pv i σ' H' → t ⟨Pv (i + 1), rt, f, Pv (i + 1)⟩ (σ'.set k (some (.int (lo + (i : Int))))) H') (hd : ∀ σ' H', Pv (n - lo).toNat σ' H' → f σ' H') :
    ∃ i j : Int, [V.int lo, V.int n] = [.int i, .int j] ∧ (-(2 ^ 62) ≤ i ∧ i < 2 ^ 62 ∧ -(2 ^ 62) ≤ j ∧ j < 2 ^ 62) ∧ LoopOk (Itr i (j - i).toNat) (gName k) t ⟨f, rt, b', c'⟩ σ H := by
  refine ⟨lo, n, rfl, h1, l_it walk_range Pv h0 (fun _ _ _ _ _ => trivial) (fun i x σ' H1 H2 hi hp hy => ?_) hd⟩
  obtain ⟨e, ex⟩ := hy
  subst e ex
  exact hs i σ' _ (by omega) hp
end

/-! ### for x in (a list or a tuple), enumerate of either: what is walked is reckoned first -/
def iSeq (K : PySem.W.Frag) (tl : TE) : TI := fun σ H R => tl σ H fun x H1 => ∃ a, x = .ref a ∧ ((∃ xs, SqL K H1 a xs) ∧ R (Itl K a) H1 ∨ (∃ xs, SqT K H1 a xs) ∧ R (Itt K a) H1)
section
variable {X : Cx}
theorem pi_seqS {tg l : Expr} {tl : TE} (hl : PE X l tl) : PI X tg l (iSeq X.K tl) := by
  refine ⟨fun pins s σ H R I h => ?_⟩
  refine thn (hl.run pins s σ H _ I h) fun v s1 ⟨x, H1, I1, r1, q1⟩ => ?_
  obtain ⟨a, e, q1⟩ := q1
  subst e
  cases r1
  rcases q1 with ⟨⟨xs, hq⟩, q⟩ | ⟨⟨xs, hq⟩, q⟩
  · obtain ⟨its, rv, p, hz⟩ := I1.list hq
    refine wpAny_pyIter_list p.isList ?_
    refine ⟨s1.heap.objs.size, [s1.heap.objs.size], _, _, H1, rfl, I1.kept (t' := s1.toks) fun b o e => Heap.get?_push_of_some _ e, turn_list a _, ⟨_, Heap.get?_push_size _ rfl, rfl, rfl⟩, fun b hb => ?_, q⟩
    have e : b = s1.heap.objs.size := by simpa using hb
    subst e
    exact I1.fpOk (Nat.le_refl _) (I1.hok.fresh (Nat.le_refl _))
  · obtain ⟨its, rv, p, hz⟩ := I1.tuple hq
    refine wpAny_pyIter_tuple (show s1.heap.IsTuple a its.toArray from p) ?_
    refine ⟨s1.heap.objs.size, [s1.heap.objs.size], _, _, H1, rfl, I1.kept (t' := s1.toks) fun b o e => Heap.get?_push_of_some _ e, turn_tuple a _, ⟨_, Heap.get?_push_size _ rfl, rfl, rfl⟩, fun b hb => ?_, q⟩
    have e : b = s1.heap.objs.size := by simpa using hb
    subst e
    exact I1.fpOk (Nat.le_refl _) (I1.hok.fresh (Nat.le_refl _))
def iEnumS (K : PySem.W.Frag) (ta : TA) : TI := fun σ H R => ta σ H fun vs H1 => ∃ a, vs = [.ref a] ∧ ((∃ xs, SqL K H1 a xs) ∧ R (Ite K a) H1 ∨ (∃ xs, SqT K H1 a xs) ∧ R (IteT K a) H1)
theorem pi_enumS {e : Expr} {ta : TA} {p pos tpos : Pos} {elts : List Expr} {kk : Nat} (hg : Gl X "enumerate") (hm : X.mg "enumerate" = none) (ha : PA X [e] ta) (hs : starEach [e] X.env = [(false, eval e X.env)] := by rfl) :
    PI X (.Tuple elts kk tpos) (.Call (.Name "enumerate" p) [e] [] pos) (iEnumS X.K ta) := by
  refine ⟨fun pins s σ H R I h => ?_⟩
  refine Call_ (ld_blt I hg hm boot_enumerate (PyProof.Rows.callWith_type1 (thn (ha.run pos pins s σ H _ I h) fun us s1 ⟨vs, H1, I1, r1, q1⟩ => ?_) hs rfl))
  obtain ⟨a, ex, q1⟩ := q1
  subst ex
  cases r1 with
  | cons r rr =>
    cases rr
    cases r
    have fp : ∀ b ∈ [s1.heap.objs.size + 1, s1.heap.objs.size], FpOk X pins H1 b := fun b hb => by
      have e' : b = s1.heap.objs.size + 1 ∨ b = s1.heap.objs.size := by simpa using hb
      have hle : s1.heap.objs.size ≤ b := by
        rcases e' with z | z
        · rw [z]; exact Nat.le_add_right _ _
        · rw [z]; exact Nat.le_refl _
      exact I1.fpOk hle (I1.hok.fresh hle)
    rcases q1 with ⟨⟨xs, hq⟩, q⟩ | ⟨⟨xs, hq⟩, q⟩
    · obtain ⟨its, rv, p', hz⟩ := I1.list hq
      refine call_enumerate_list p'.isList fun h' he hit hsz hk => wpAny_pyIter_enum he ?_
      have I2 : Inv X pins σ H1 { s1 with heap := h' } := I1.kept (t' := s1.toks) hk
      exact ⟨s1.heap.objs.size + 1, [s1.heap.objs.size + 1, s1.heap.objs.size], _, _, H1, rfl, I2, turn_enum a (s1.heap.objs.size + 1) s1.heap.objs.size, ⟨⟨.none, he⟩, hit, Nat.succ_ne_self _⟩, fp, q⟩
    · obtain ⟨its, rv, p', hz⟩ := I1.tuple hq
      refine call_enumerate_tup p' fun h' he hit hsz hk => wpAny_pyIter_enum he ?_
      have I2 : Inv X pins σ H1 { s1 with heap := h' } := I1.kept (t' := s1.toks) hk
      exact ⟨s1.heap.objs.size + 1, [s1.heap.objs.size + 1, s1.heap.objs.size], _, _, H1, rfl, I2, turn_enumT a (s1.heap.objs.size + 1) s1.heap.objs.size, ⟨⟨.none, he⟩, hit, Nat.succ_ne_self _⟩, fp, q⟩
end
section
variable {K : PySem.W.Frag} {σ : St} {H : Hp} {t : TS} {D : Ends} {g : TG} {f b' c' : St → Hp → Prop} {rt : VK}
theorem w_iSeq {tl : TE} {R : It → Hp → Prop} (q : tl σ H fun x H1 => ∃ a, x = .ref a ∧ ((∃ xs, SqL K H1 a xs) ∧ R (Itl K a) H1 ∨ (∃ xs, SqT K H1 a xs) ∧ R (Itt K a) H1)) : iSeq K tl σ H R := q
theorem w_iEnumS {ta : TA} {R : It → Hp → Prop} (q : ta σ H fun vs H1 => ∃ a, vs = [.ref a] ∧ ((∃ xs, SqL K H1 a xs) ∧ R (Ite K a) H1 ∨ (∃ xs, SqT K H1 a xs) ∧ R (IteT K a) H1)) : iEnumS K ta σ H R := q
theorem l_seq {b : Bool} {a : Addr} (xs : List V) (Pv : Nat → St → Hp → Prop) (h : Sq b K H a xs) (h0 : Pv 0 σ H) (hG : ∀ i σ H, i ≤ xs.length → Pv i σ H → Sq b K H a xs)
    (hs : ∀ (i : Nat) x σ' H', i < xs.length → xs[i]? = some x → Pv i σ' H' → g x σ' H' fun σ2 H2 => t ⟨Pv (i + 1), rt, f, Pv (i + 1)⟩ σ2 H2) (hd : ∀ σ' H', Pv xs.length σ' H' → f σ' H') :
    ∃ a', V.ref a = .ref a' ∧ ((∃ xs, SqL K H a' xs) ∧ LoopOk (Itl K a') g t ⟨f, rt, b', c'⟩ σ H ∨ (∃ xs, SqT K H a' xs) ∧ LoopOk (Itt K a') g t ⟨f, rt, b', c'⟩ σ H) := by
  refine ⟨a, rfl, ?_⟩
  cases b with
  | true =>
    refine .inl ⟨⟨xs, h⟩, l_it (walk_list (xs := xs)) Pv h0 hG (fun i x σ' H1 H2 hi hp hy => ?_) hd⟩
    obtain ⟨e, ex⟩ := hy
    subst e
    exact hs i x σ' _ hi ex hp
  | false =>
    refine .inr ⟨⟨xs, h⟩, l_it (walk_tup (xs := xs)) Pv h0 hG (fun i x σ' H1 H2 hi hp hy => ?_) hd⟩
    obtain ⟨e, ex⟩ := hy
    subst e
    exact hs i x σ' _ hi ex hp
theorem l_enum {b : Bool} {a : Addr} (xs : List V) (Pv : Nat → St → Hp → Prop) (h : Sq b K H a xs) (h0 : Pv 0 σ H) (hG : ∀ i σ H, i ≤ xs.length → Pv i σ H → Sq b K H a xs)
    (hs : ∀ (i : Nat) x (T : Addr) σ' H', i < xs.length → xs[i]? = some x → Pv i σ' H' → H' T = none → g (.ref T) σ' (upd H' T (.tup [.int (i : Int), x])) fun σ2 H2 => t ⟨Pv (i + 1), rt, f, Pv (i + 1)⟩ σ2 H2) (hd : ∀ σ' H', Pv xs.length σ' H' → f σ' H') :
    ∃ a', [V.ref a] = [.ref a'] ∧ ((∃ xs, SqL K H a' xs) ∧ LoopOk (Ite K a') g t ⟨f, rt, b', c'⟩ σ H ∨ (∃ xs, SqT K H a' xs) ∧ LoopOk (IteT K a') g t ⟨f, rt, b', c'⟩ σ H) := by
  refine ⟨a, rfl, ?_⟩
  cases b with
  | true =>
    refine .inl ⟨⟨xs, h⟩, l_it (walk_enum (xs := xs)) Pv h0 hG (fun i x σ' H1 H2 hi hp hy => ?_) hd⟩
    obtain ⟨T, u, v, rfl, hT, e, hu, hv⟩ := hy
    cases hu
    subst e
    exact hs i v T σ' _ hi hv hp hT
  | false =>
    refine .inr ⟨⟨xs, h⟩, l_it (walk_enumT (xs := xs)) Pv h0 hG (fun i x σ' H1 H2 hi hp hy => ?_) hd⟩
    obtain ⟨T, u, v, rfl, hT, e, hu, hv⟩ := hy
    cases hu
    subst e
    exact hs i v T σ' _ hi hv hp hT
/-- a, b = (a new pair) -/
theorem w_pair {i j : Nat} {a : Addr} {x y : V} {N : St → Hp → Prop} (h : Sq false K H a [x, y]) (q : N ((σ.set i (some x)).set j (some y)) H) : gTup K 2 (gCons (gName i) (gCons (gName j) gNil)) (.ref a) σ H N :=
  ⟨a, [x, y], rfl, h, rfl, x, [y], rfl, y, [], rfl, rfl, q⟩
end
end L2

namespace L2
open PySem PySem.Spec PyProof.Rows
/-! ### stores into lists, cuts, isinstance, lists of numbers -/
section
variable {K : PySem.W.Frag} {σ : St} {H : Hp} {v x : V} {D : Ends} {t u : TS} {Q : VK} {ta tb : TE}
theorem w_gSub {r : TSet} {N : St → Hp → Prop} (q : ta σ H fun o H1 => tb σ H1 fun i H2 => r o i v H2 fun H3 => N σ H3) : gSub ta tb r v σ H N := q
theorem w_setI {p : Addr} {ns : List Int} {k z : Int} {N : Hp → Prop} (h : H p = some (.lst (ns.map V.int))) (h0 : 0 ≤ k) (h1 : k < ns.length) (q : N (upd H p (.lst ((ns.set k.toNat z).map V.int)))) : rSetL (.ref p) (.int k) (.int z) H N := by
  refine ⟨p, ns.map V.int, k, k.toNat, rfl, rfl, h, ?_, ?_⟩
  · unfold ixN
    rw [if_pos h0, if_pos (by rw [List.length_map]; omega)]
  · rw [← List.map_set]; exact q
theorem w_setL {p : Addr} {xs : List V} {k : Int} {N : Hp → Prop} (h : H p = some (.lst xs)) (h0 : 0 ≤ k) (h1 : k < xs.length) (q : N (upd H p (.lst (xs.set k.toNat v)))) : rSetL (.ref p) (.int k) v H N := by
  refine ⟨p, xs, k, k.toNat, rfl, rfl, h, ?_, q⟩
  unfold ixN
  rw [if_pos h0, if_pos (by omega)]
theorem w_cut {f b' c' : St → Hp → Prop} {rt : VK} (Mid : St → Hp → Prop) (h1 : t ⟨Mid, rt, b', c'⟩ σ H) (h2 : ∀ σ' H', Mid σ' H' → u ⟨f, rt, b', c'⟩ σ' H') : Evl.tCut t u ⟨f, rt, b', c'⟩ σ H := ⟨Mid, h1, h2⟩
theorem w_isi {tn cn : String} {b : Bool} (ht : TyX K H x (.type tn)) (hk : kitB tn cn = some b) (q : Q (.bl b) H) : rIsi K [x, .ty cn] H Q := ⟨x, .ty cn, _, _, b, rfl, .ty cn, ht, kit_ty hk, q⟩
theorem tyx_tup {a : Addr} {xs : List V} (h : SqT K H a xs) : TyX K H (.ref a) (.type "tuple") := by
  rcases h with (h | ⟨o, h⟩) | ⟨o, its, n, h1, h2, _⟩
  · exact .base (.tup h)
  · exact .fTuple h
  · exact .kTuple h1 h2
theorem tyx_lst {a : Addr} {xs : List V} (h : SqL K H a xs) : TyX K H (.ref a) (.type "list") := by
  rcases h with (h | ⟨o, h⟩) | ⟨o, its, n, h1, h2, _⟩
  · exact .base (.lst h)
  · exact .base (.frz h)
  · exact .kList h1 h2
end
theorem last_at_neg {ns : List Int} (h : 0 < ns.length) : ∃ z, z ∈ ns ∧ atI (ns.map V.int) (-1) = some (.int z) := by
  refine ⟨ns[ns.length - 1], List.getElem_mem _, ?_⟩
  unfold atI ixN
  rw [if_neg (by decide), if_pos (by rw [List.length_map]; omega)]
  show (ns.map V.int)[(-1 + (((ns.map V.int).length : Nat) : Int)).toNat]? = _
  rw [List.length_map, show (-1 + ((ns.length : Nat) : Int)).toNat = ns.length - 1 by omega, List.getElem?_map, List.getElem?_eq_getElem (by omega)]
  rfl
theorem sum_nonneg : ∀ {ns : List Int}, (∀ x ∈ ns, (0 : Int) ≤ x) → 0 ≤ ns.sum
  | [], _ => by simp
  | a :: r, h => by
    have h1 := h a (List.mem_cons_self ..)
    have h2 := sum_nonneg (ns := r) fun x hx => h x (List.mem_cons_of_mem _ hx)
    rw [List.sum_cons]; omega
theorem sum_ge_mem : ∀ {ns : List Int} {z : Int}, (∀ x ∈ ns, (0 : Int) ≤ x) → z ∈ ns → z ≤ ns.sum
  | a :: r, z, h, hz => by
    have h1 := h a (List.mem_cons_self ..)
    have h2 := sum_nonneg (ns := r) fun x hx => h x (List.mem_cons_of_mem _ hx)
    rw [List.sum_cons]
    rcases List.mem_cons.mp hz with e | e
    · subst e; omega
    · have := sum_ge_mem (ns := r) (fun x hx => h x (List.mem_cons_of_mem _ hx)) e
      omega
/-- the same data by _law_same: no deeper than n -/
def Sm (K : PySem.W.Frag) (H : Hp) : Nat → V → V → Prop
  | 0, x, y => x = y ∧ (x = .non ∨ (∃ b, x = .bl b) ∨ (∃ i, x = .int i) ∨ ∃ s, x = .str s)
  | n + 1, x, y => (x = y ∧ (x = .non ∨ (∃ b, x = .bl b) ∨ (∃ i, x = .int i) ∨ ∃ s, x = .str s)) ∨
    ∃ (a a' : Addr) (k : Bool) (xs ys : List V), x = .ref a ∧ y = .ref a' ∧ SqT K H a xs ∧ Sq k K H a' ys ∧ xs.length = ys.length ∧ ys.length ≤ 100000 ∧ ∀ (i : Nat) x' y', xs[i]? = some x' → ys[i]? = some y' → Sm K H n x' y'
theorem Sm.int {K : PySem.W.Frag} {H : Hp} {n : Nat} {i : Int} : Sm K H n (.int i) (.int i) := by
  cases n
  · exact ⟨rfl, .inr (.inr (.inl ⟨i, rfl⟩))⟩
  · exact .inl ⟨rfl, .inr (.inr (.inl ⟨i, rfl⟩))⟩
theorem Same.sm {K : PySem.W.Frag} {H H' : Hp} (e : Same H H') : ∀ {n : Nat} {x y : V}, Sm K H n x y → Sm K H' n x y
  | 0, _, _, h => h
  | n + 1, _, _, h => by
    rcases h with h | ⟨a, a', k, xs, ys, h1, h2, h3, h4, h5, hz, h6⟩
    · exact .inl h
    · exact .inr ⟨a, a', k, xs, ys, h1, h2, e.seqT h3, e.sq h4, h5, hz, fun i x' y' hx hy => Same.sm e (h6 i x' y' hx hy)⟩
end L2

namespace L2
open PySem PySem.Spec PyProof.Rows
/-! ### lists of numbers: cut, compared, looked into -/
section
variable {K : PySem.W.Frag} {H : Hp} {Q : VK}
theorem cutV_to (ns : List Int) {j : Int} (hj : 0 ≤ j) : cutV (ns.map V.int) none (some j) = (ns.take j.toNat).map V.int := by
  have e : j = ((j.toNat : Nat) : Int) := (Int.toNat_of_nonneg hj).symm
  unfold cutV
  rw [HT.sIx_none, e, HT.sIx_nat, List.drop_zero, Nat.sub_zero, Int.toNat_natCast, List.map_take, List.length_map]
  rcases Nat.le_total j.toNat ns.length with h | h
  · rw [Nat.min_eq_left h]
  · rw [Nat.min_eq_right h, List.take_of_length_le (by rw [List.length_map]; exact Nat.le_refl _), List.take_of_length_le (by rw [List.length_map]; exact h)]
theorem w_slTo {a : Addr} {ns : List Int} {j : Int} (h : Sq true K H a (ns.map V.int)) (hj : 0 ≤ j) (q : ∀ p, H p = none → Q (.ref p) (upd H p (.lst ((ns.take j.toNat).map V.int)))) : rSlG K (.ref a) none (some j) H Q :=
  .inl ⟨a, ns.map V.int, rfl, h, fun p hp => by rw [cutV_to ns hj]; exact q p hp⟩
theorem dpAll_ints {ns : List Int} : DpAll K H (ns.map V.int) (ns.map PyData.int) := by
  induction ns with
  | nil => exact .nil
  | cons a r ih => exact .cons (.int a) ih
theorem dp_ints {b : Bool} {a : Addr} {ns : List Int} (h : Sq b K H a (ns.map V.int)) : Dp K H (.ref a) (if b then .list (ns.map PyData.int) else .tuple (ns.map PyData.int)) := by
  cases b
  · exact .tup h dpAll_ints
  · exact .lst h dpAll_ints
theorem canLay_ints (ns : List Int) : PyData.canLayAll0 (ns.map PyData.int) = true := by
  induction ns with
  | nil => rfl
  | cons a r ih => simp only [List.map_cons, PyData.canLayAll0, PyData.canLay0, ih, Bool.and_self]
theorem depth_ints (ns : List Int) : PyData.depthAll (ns.map PyData.int) = 0 := by
  induction ns with
  | nil => rfl
  | cons a r ih => simp only [List.map_cons, PyData.depthAll, PyData.depth, ih, Nat.max_self]
theorem shaped_ints (ns : List Int) : SeqAt.shaped (.list (ns.map PyData.int)) = true := by
  simp [SeqAt.shaped, PyData.canLay0, PyData.depth, canLay_ints, depth_ints]
theorem shaped_intsT (ns : List Int) : SeqAt.shaped (.tuple (ns.map PyData.int)) = true := by
  simp [SeqAt.shaped, PyData.canLay0, PyData.depth, canLay_ints, depth_ints]
theorem eqvAll_ints (ns : List Int) : PyData.eqvAll (ns.map PyData.int) (ns.map PyData.int) = true := by
  induction ns with
  | nil => rfl
  | cons a r ih => simp only [List.map_cons, PyData.eqvAll, PyData.eqv, ih, beq_self_eq_true, Bool.and_self]
theorem w_neInts {a a' : Addr} {ns : List Int} (h : Sq true K H a (ns.map V.int)) (h' : Sq true K H a' (ns.map V.int)) (q : Q (.bl false) H) : rNeG K (.ref a) (.ref a') H Q :=
  w_neD (dp_ints h) (dp_ints h') (shaped_ints ns) (shaped_ints ns) (by
    have e : PyData.eqv (.list (ns.map PyData.int)) (.list (ns.map PyData.int)) = true := by simp only [PyData.eqv, eqvAll_ints]
    show Q (.bl (!PyData.eqv (.list (ns.map PyData.int)) (.list (ns.map PyData.int)))) H
    rw [e]; exact q)
theorem flat_ints (ns : List Int) : (ns.map V.int).all flatV = true := by
  induction ns with
  | nil => rfl
  | cons a r ih => simp only [List.map_cons, List.all_cons, ih, Bool.and_true]; rfl
theorem eqV_int (i j : Int) : eqV (.int i) (.int j) = (i == j) := rfl
theorem w_maxI {a : Addr} {ns : List Int} (h : Sq true K H a (ns.map V.int)) (hp : 0 < ns.length) (q : ∀ m, m ∈ ns → (∀ y, y ∈ ns → y ≤ m) → Q (.int m) H) : rMax K [.ref a] H Q := ⟨a, ns, rfl, h, hp, q⟩
theorem w_indexI {a : Addr} {ns : List Int} {z : Int} {j : Nat} (h : Sq true K H a (ns.map V.int)) (hj : j < ns.length) (e : nth ns (j : Nat) = z) (hno : ∀ m : Nat, m < j → nth ns (m : Nat) ≠ z) (q : Q (.int (j : Nat)) H) : rIndex K (.ref a) [.int z] H Q := by
  have hg : ∀ (m : Nat), m < ns.length → (ns.map V.int)[m]? = some (.int (nth ns (m : Nat))) := fun m hm => by
    rw [List.getElem?_map, List.getElem?_eq_getElem hm, nth_nat, List.getD_eq_getElem?_getD, List.getElem?_eq_getElem hm]
    rfl
  refine ⟨a, ns.map V.int, .int z, j, .int z, rfl, rfl, h, rfl, flat_ints ns, by rw [hg j hj, e], by rw [eqV_int]; exact beq_self_eq_true z, fun m z' hm hz => ?_, q⟩
  rw [hg m (by omega)] at hz
  cases hz
  rw [eqV_int]
  exact beq_eq_false_iff_ne.mpr (hno m hm)
end
end L2

namespace L2
open PySem PySem.Spec PyProof.Rows
/-! ### zip of two, each a list (true) or a tuple (false) -/
def ItOf (b : Bool) (h : Heap) (it a : Addr) (i : Nat) : Prop := match b with
  | true => h.IsListIter it a i
  | false => h.IsTupleIter it a i
def SrcOf (b : Bool) (h : Heap) (a : Addr) (items : Array Value) : Prop := match b with
  | true => h.IsList a items
  | false => h.IsTuple a items
theorem ItOf.at {b : Bool} {h h' : Heap} {it a : Addr} {i : Nat} (x : ItOf b h it a i) (k : ∀ o, h.get? it = some o → h'.get? it = some o) : ItOf b h' it a i := by
  cases b with
  | true => exact Heap.IsListIter.at (show h.IsListIter it a i from x) k
  | false => exact Heap.IsTupleIter.at (show h.IsTupleIter it a i from x) k
theorem ItOf.obj {b : Bool} {h : Heap} {it a : Addr} {i : Nat} (x : ItOf b h it a i) : ∃ o, h.get? it = some o ∧ ∀ v, o.data ≠ .cell v := by
  cases b with
  | true => obtain ⟨o, e, _, d⟩ := (show h.IsListIter it a i from x); exact ⟨o, e, fun v q => by rw [d] at q; cases q⟩
  | false => obtain ⟨o, e, _, d⟩ := (show h.IsTupleIter it a i from x); exact ⟨o, e, fun v q => by rw [d] at q; cases q⟩
theorem SrcOf.ne {b : Bool} {h : Heap} {a it : Addr} {items : Array Value} {b' : Bool} {a' : Addr} {i : Nat} (p : SrcOf b h a items) (q : ItOf b' h it a' i) : a ≠ it := by
  intro e
  subst e
  have hp : ∃ o, h.get? a = some o ∧ (o.cls = .type "list" ∨ o.cls = .type "tuple") := by
    cases b with
    | true => obtain ⟨o, ho, hc, _⟩ := (show h.IsList a items from p); exact ⟨o, ho, .inl hc⟩
    | false => obtain ⟨o, ho, hc, _⟩ := (show h.IsTuple a items from p); exact ⟨o, ho, .inr hc⟩
  have hq : ∃ o, h.get? a = some o ∧ (o.cls = .type "list_iterator" ∨ o.cls = .type "tuple_iterator") := by
    cases b' with
    | true => obtain ⟨o, ho, hc, _⟩ := (show h.IsListIter a a' i from q); exact ⟨o, ho, .inl hc⟩
    | false => obtain ⟨o, ho, hc, _⟩ := (show h.IsTupleIter a a' i from q); exact ⟨o, ho, .inr hc⟩
  obtain ⟨o, ho, hc⟩ := hp
  obtain ⟨o', ho', hc'⟩ := hq
  rw [ho] at ho'
  cases ho'
  rcases hc with hc | hc <;> rcases hc' with hc' | hc' <;> (rw [hc] at hc'; exact absurd hc' (by decide))
theorem Inv.src {X : Cx} {pins : List (Addr × Obj)} {σ : St} {H : Hp} {s : Shared} {b : Bool} {a : Addr} {xs : List V} (I : Inv X pins σ H s) (h : Sq b X.K H a xs) : ∃ its : List Value, Vals xs its ∧ SrcOf b s.heap a its.toArray ∧ a < s.heap.objs.size := by
  cases b with
  | true =>
    obtain ⟨its, rv, p, _⟩ := I.list h
    exact ⟨its, rv, p.isList, p.lt⟩
  | false =>
    obtain ⟨its, rv, p, _⟩ := I.tuple h
    obtain ⟨o, ho, _⟩ := id p
    exact ⟨its, rv, p, Heap.lt_size ho⟩
theorem Inv.sq_inj {X : Cx} {pins : List (Addr × Obj)} {σ : St} {H : Hp} {s : Shared} {b : Bool} {a : Addr} {xs ys : List V} (I : Inv X pins σ H s) (h : Sq b X.K H a xs) (h' : Sq b X.K H a ys) : xs = ys := by
  cases b with
  | true => exact I.list_inj h h'
  | false => exact I.tuple_inj h h'
theorem drawsOf {prog : Program} {w : World} {A : Around} (b : Bool) (hh : A.handled = none) (it a : Addr) (hne : a ≠ it) (items : Array Value) :
    Draws prog w A it [it, a] items.size (fun i v => items[i]? = some v) (fun i h => ItOf b h it a i ∧ SrcOf b h a items) := by
  cases b with
  | true => exact Draws.list hh it a hne items
  | false => exact Draws.tuple hh it a hne items
def ItzS (b1 b2 : Bool) (K : PySem.W.Frag) (a b : Addr) : It :=
  ⟨fun i H => ∃ (xs ys : List V) (x y : V), Sq b1 K H a xs ∧ Sq b2 K H b ys ∧ xs[i]? = some x ∧ ys[i]? = some y,
    fun i H v H' => ∃ T x y, v = .ref T ∧ H T = none ∧ H' = upd H T (.tup [x, y]) ∧ (∀ xs, Sq b1 K H a xs → xs[i]? = some x) ∧ ∀ ys, Sq b2 K H b ys → ys[i]? = some y,
    fun i H => ∃ xs ys : List V, Sq b1 K H a xs ∧ Sq b2 K H b ys ∧ i ≤ xs.length ∧ i ≤ ys.length ∧ (xs.length ≤ i ∨ ys.length ≤ i)⟩
theorem turn_zipS {P : Program} {w : World} {K : PySem.W.Frag} {elts : List Expr} {kk : Nat} {tpos : Pos} (b1 b2 : Bool) {a b z TI TO i1 i2 : Addr} (D : ZipSep2 z TI TO i1 i2 [i1, a] [i2, b]) :
    Turn P w K (.Tuple elts kk tpos) (ItzS b1 b2 K a b) [z, TI, TO, i1, i2] z (fun i h => IsZip h z TI TO .none ∧ IsPair h TI (.ref i1) (.ref i2) ∧ (∃ x y, IsPair h TO x y) ∧ ItOf b1 h i1 a i ∧ ItOf b2 h i2 b i) where
  mem := by simp
  obj := fun i h st c hc => by
    obtain ⟨hz, hTI, ⟨x, y, hTO⟩, h1, h2⟩ := st
    have e' : c = z ∨ c = TI ∨ c = TO ∨ c = i1 ∨ c = i2 := by simpa using hc
    rcases e' with q | q | q | q | q
    · rw [q]; exact ⟨_, hz, fun v q => nomatch q⟩
    · rw [q]; exact ⟨_, hTI, fun v q => nomatch q⟩
    · rw [q]; exact ⟨_, hTO, fun v q => nomatch q⟩
    · rw [q]; exact h1.obj
    · rw [q]; exact h2.obj
  keep := fun i h h' st k => by
    obtain ⟨hz, hTI, ⟨x, y, hTO⟩, h1, h2⟩ := st
    exact ⟨k z (by simp) _ hz, k TI (by simp) _ hTI, ⟨x, y, k TO (by simp) _ hTO⟩, h1.at fun o q => k i1 (by simp) o q, h2.at fun o q => k i2 (by simp) o q⟩
  item := by
    intro X hP hw hK hc i pins s σ H E I hf st hg
    subst hP hw hK
    obtain ⟨hz, hTI, ⟨x0, y0, hTO⟩, h1, h2⟩ := st
    obtain ⟨xs, ys, x, y, hqx, hqy, hx, hy⟩ := hg
    obtain ⟨its, rv, p, la⟩ := I.src hqx
    obtain ⟨its2, rv2, p2, lb⟩ := I.src hqy
    obtain ⟨u, hu, ru⟩ := rv.get hx
    obtain ⟨u2, hu2, ru2⟩ := rv2.get hy
    have hzl : z < s.heap.objs.size := Heap.lt_size hz
    have hl1 : i < its.toArray.size := by simpa using (List.getElem?_eq_some_iff.mp hu).1
    have hl2 : i < its2.toArray.size := by simpa using (List.getElem?_eq_some_iff.mp hu2).1
    have hin : X.A.in1.handled = none := I.ok.hd hc
    refine wpAny_pyNext_zipD2_item D (drawsOf b1 hin i1 a (p.ne h1) its.toArray) (drawsOf b2 hin i2 b (p2.ne h2) its2.toArray) hz hTI hTO ⟨h1, p⟩ ⟨h2, p2⟩ hl1 hl2 fun w1 w2 h' tk e1 e2 z' TO' st1 st2 hT hsz hk => ?_
    have ew1 : w1 = u := by
      have g1 : its.toArray[i]? = some w1 := e1
      have g2 : its.toArray[i]? = some u := by simpa using hu
      rw [g1] at g2
      exact Option.some.inj g2
    have ew2 : w2 = u2 := by
      have g1 : its2.toArray[i]? = some w2 := e2
      have g2 : its2.toArray[i]? = some u2 := by simpa using hu2
      rw [g1] at g2
      exact Option.some.inj g2
    subst ew1 ew2
    refine ⟨_, rfl, wpAny_letOwnedTupleGo_zip (s := { s with heap := h', toks := tk }) z' fun h'' z'' sb => ?_⟩
    have hT2 : h''.get? s.heap.objs.size = some { cls := .type "tuple", data := .seq #[w1, w2] } := (sb.2 _ (Nat.ne_of_gt hzl)).trans hT
    have new : ObjOk X.prog X.w (upd H s.heap.objs.size (.tup [x, y])) h'' s.heap.objs.size (.tup [x, y]) :=
      ⟨by show 2 ≤ sizeLine; decide, [w1, w2], .cons ru (.cons ru2 .nil), ⟨_, hT2, rfl, _, rfl⟩⟩
    have I1 : Inv X pins σ (upd H s.heap.objs.size (.tup [x, y])) { s with heap := h'', toks := tk } :=
      I.turnedNew (t' := tk) (ch := [z, TI, TO, i1, i2]) (fun c o hb q => (sb.2 c (fun q' => hb (by simp [q']))).trans (hk c o (fun q' => hb (by simp [q'])) (fun q' => hb (by simp [q'])) (fun q' => hb (by simp [q'])) (fun q' => hb (by simp [q'])) q)) hf (Nat.le_refl _) new
    refine ⟨.ref s.heap.objs.size, _, I1, rfl, ⟨_, x, y, rfl, I.hok.fresh (Nat.le_refl _), rfl, fun l hl => by rw [I.sq_inj hl hqx]; exact hx, fun l hl => by rw [I.sq_inj hl hqy]; exact hy⟩, ⟨z'', ?_, ⟨w1, w2, ?_⟩, ?_, ?_⟩, fun c hcm => ?_⟩
    · exact (sb.2 _ D.TIz).trans (hk _ _ D.TIz D.TITO D.TIi1 D.TIi2 hTI)
    · exact (sb.2 _ D.TOz).trans TO'
    · exact st1.1.at fun o q => (sb.2 _ (Ne.symm D.zi1)).trans q
    · exact st2.1.at fun o q => (sb.2 _ (Ne.symm D.zi2)).trans q
    · have hlt : c < s.heap.objs.size := by
        have e' : c = z ∨ c = TI ∨ c = TO ∨ c = i1 ∨ c = i2 := by simpa using hcm
        rcases e' with q | q | q | q | q
        · rw [q]; exact hzl
        · rw [q]; exact Heap.lt_size hTI
        · rw [q]; exact Heap.lt_size hTO
        · rw [q]; obtain ⟨_, e1, _⟩ := h1.obj; exact Heap.lt_size e1
        · rw [q]; obtain ⟨_, e2, _⟩ := h2.obj; exact Heap.lt_size e2
      rw [upd_ne (Nat.ne_of_lt hlt)]
      exact (hf c hcm).1
  done := by
    intro X hP hw hK hc i pins s σ H E I hf st hg
    subst hP hw hK
    obtain ⟨hz, hTI, ⟨x0, y0, hTO⟩, h1, h2⟩ := st
    obtain ⟨xs, ys, hqx, hqy, le1, le2, hend⟩ := hg
    obtain ⟨its, rv, p, _⟩ := I.src hqx
    obtain ⟨its2, rv2, p2, _⟩ := I.src hqy
    have l1 := rv.length
    have l2 := rv2.length
    have hin : X.A.in1.handled = none := I.ok.hd hc
    refine wpAny_pyNext_zipD2_end D (drawsOf b1 hin i1 a (p.ne h1) its.toArray) (drawsOf b2 hin i2 b (p2.ne h2) its2.toArray) hz hTI hTO ⟨h1, p⟩ ⟨h2, p2⟩ (by simp; omega) (by simp; omega) (by simp; omega) fun h' tk hk => ⟨rfl, ?_⟩
    exact I.turnedL (t' := tk) (ch := [z, TI, TO, i1, i2]) (fun c o hb q => hk c o (fun q' => hb (by simp [q'])) (fun q' => hb (by simp [q'])) (fun q' => hb (by simp [q'])) (fun q' => hb (by simp [q'])) q) hf
  self := fun A i s Q E st h => wpAny_pyIter_zip st.1 h
theorem begins_src (b : Bool) (a : Addr) (items : Array Value) : ∃ o, Begins (.ref a) o (fun h => SrcOf b h a items) ∧ ∀ (h : Heap) (it : Addr), h.get? it = some o → ItOf b h it a 0 := by
  cases b with
  | true => exact ⟨_, begins_list a items, fun h it e => ⟨_, e, rfl, rfl⟩⟩
  | false => exact ⟨_, begins_tuple a items, fun h it e => ⟨_, e, rfl, rfl⟩⟩
def iZipS (K : PySem.W.Frag) (ta : TA) : TI := fun σ H R => ta σ H fun vs H1 => ∃ a b, vs = [.ref a, .ref b] ∧ ∃ b1 b2 xs ys, Sq b1 K H1 a xs ∧ Sq b2 K H1 b ys ∧ R (ItzS b1 b2 K a b) H1
theorem pi_zipS {X : Cx} {e e2 : Expr} {ta : TA} {p pos tpos : Pos} {elts : List Expr} {kk : Nat} (hg : Gl X "zip") (hm : X.mg "zip" = none) (ha : PA X [e, e2] ta)
    (hs : starEach [e, e2] X.env = (false, eval e X.env) :: starEach [e2] X.env := by rfl) (hpl : (backTo pos (starEach [e2] X.env)).any (·.1) = false := by rfl) :
    PI X (.Tuple elts kk tpos) (.Call (.Name "zip" p) [e, e2] [] pos) (iZipS X.K ta) := by
  refine ⟨fun pins s σ H R I h => ?_⟩
  refine Call_ (ld_blt I hg hm PyProof.Rows.boot_zip (PyProof.Rows.callWith_type1 (thn (ha.run pos pins s σ H _ I h) fun us s1 ⟨vs, H1, I1, r1, q1⟩ => ?_) hs hpl))
  obtain ⟨a, b, ex, b1, b2, xs, ys, hqx, hqy, q⟩ := q1
  subst ex
  cases r1 with
  | cons r rr =>
    cases rr with
    | cons r' rr =>
      cases rr
      cases r
      cases r'
      obtain ⟨its, rv, p1, la⟩ := I1.src hqx
      obtain ⟨its2, rv2, p2, lb⟩ := I1.src hqy
      obtain ⟨o1, B1, k1⟩ := begins_src b1 a its.toArray
      obtain ⟨o2, B2, k2⟩ := begins_src b2 b its2.toArray
      refine zip_begins2 B1 B2 p1 p2 fun h' hz hTI hTO g1 g2 hsz hk => wpAny_pyIter_zip hz ?_
      have I2 : Inv X pins σ H1 { s1 with heap := h' } := I1.kept (t' := s1.toks) hk
      refine ⟨s1.heap.objs.size + 4, [s1.heap.objs.size + 4, s1.heap.objs.size + 2, s1.heap.objs.size + 3, s1.heap.objs.size, s1.heap.objs.size + 1], _, _, H1, rfl, I2,
        turn_zipS b1 b2 (zip_sep2 (N := s1.heap.objs.size) (fp1 := [a]) (fp2 := [b]) (fun c hc => by rw [List.mem_singleton.mp hc]; exact la) (fun c hc => by rw [List.mem_singleton.mp hc]; exact lb)), ⟨hz, hTI, ⟨_, _, hTO⟩, k1 _ _ g1, k2 _ _ g2⟩, fun c hcm => ?_, q⟩
      have e' : c = s1.heap.objs.size + 4 ∨ c = s1.heap.objs.size + 2 ∨ c = s1.heap.objs.size + 3 ∨ c = s1.heap.objs.size ∨ c = s1.heap.objs.size + 1 := by simpa using hcm
      have hle : s1.heap.objs.size ≤ c := by
        rcases e' with z | z | z | z | z
        · rw [z]; exact Nat.le_add_right _ _
        · rw [z]; exact Nat.le_add_right _ _
        · rw [z]; exact Nat.le_add_right _ _
        · rw [z]; exact Nat.le_refl _
        · rw [z]; exact Nat.le_add_right _ _
      exact I1.fpOk hle (I1.hok.fresh hle)
theorem walk_zipS {b1 b2 : Bool} {K : PySem.W.Frag} {a b : Addr} {xs ys : List V} (hn : xs.length = ys.length) : Walk (ItzS b1 b2 K a b) xs.length (fun H => Sq b1 K H a xs ∧ Sq b2 K H b ys) (YPair (fun i => xs[i]?) (fun i => ys[i]?)) := by
  refine ⟨fun i _ hi q => ?_, fun _ q => ⟨xs, ys, q.1, q.2, Nat.le_refl _, by omega, .inl (Nat.le_refl _)⟩, fun i H v H' _ q y => ?_⟩
  · exact ⟨xs, ys, xs[i], ys[i], q.1, q.2, by simp [hi], by simp [show i < ys.length by omega]⟩
  · obtain ⟨T, x, z, h1, h2, h3, h4, h5⟩ := y
    exact ⟨T, x, z, h1, h2, h3, h4 xs q.1, h5 ys q.2⟩
section
variable {K : PySem.W.Frag} {σ : St} {H : Hp} {t : TS} {D : Ends} {g : TG} {f bk ct : St → Hp → Prop} {rt : VK}
theorem w_iZipS {ta : TA} {R : It → Hp → Prop} (q : ta σ H fun vs H1 => ∃ a b, vs = [.ref a, .ref b] ∧ ∃ b1 b2 xs ys, Sq b1 K H1 a xs ∧ Sq b2 K H1 b ys ∧ R (ItzS b1 b2 K a b) H1) : iZipS K ta σ H R := q
theorem l_zip {b1 b2 : Bool} {a b : Addr} (xs ys : List V) (hn : xs.length = ys.length) (Pv : Nat → St → Hp → Prop) (hx : Sq b1 K H a xs) (hy : Sq b2 K H b ys) (h0 : Pv 0 σ H) (hG : ∀ i σ H, i ≤ xs.length → Pv i σ H → Sq b1 K H a xs ∧ Sq b2 K H b ys)
    (hs : ∀ (i : Nat) x y (T : Addr) σ' H', i < xs.length → xs[i]? = some x → ys[i]? = some y → Pv i σ' H' → H' T = none → g (.ref T) σ' (upd H' T (.tup [x, y])) fun σ2 H2 => t ⟨Pv (i + 1), rt, f, Pv (i + 1)⟩ σ2 H2) (hd : ∀ σ' H', Pv xs.length σ' H' → f σ' H') :
    ∃ a' b', [V.ref a, V.ref b] = [.ref a', .ref b'] ∧ ∃ b1 b2 xs ys, Sq b1 K H a' xs ∧ Sq b2 K H b' ys ∧ LoopOk (ItzS b1 b2 K a' b') g t ⟨f, rt, bk, ct⟩ σ H := by
  refine ⟨a, b, rfl, b1, b2, xs, ys, hx, hy, l_it (walk_zipS hn) Pv h0 hG (fun i x σ' H1 H2 hi hp hy => ?_) hd⟩
  obtain ⟨T, u, v, rfl, hT, e, hu, hv⟩ := hy
  subst e
  exact hs i u v T σ' _ hi hu hv hp hT
end

/-! ### list comprehensions -/
/-- what a comprehension asks of its walk J -/
def CompOk (J : It) (g : TG) (tt : TT) (te : TE) (vs : List Nat) (σ : St) (H1 : Hp) (Q : VK) : Prop := ∀ D, H1 D = none → ∃ W : Nat → Nat → Hp → Prop, (∃ m, W 0 m (upd H1 D (.lst []))) ∧ ∀ i m H, W i m H →
  (J.stop i H ∧ Q (.ref D) H) ∨ (J.go i H ∧ ∃ Nx : Hp → Prop, (∀ H', Nx H' → ∃ m', m' < m ∧ W (i + 1) m' H') ∧ ∀ x H', J.yld i H x H' → g x (wipe σ vs) H' fun σ2 H2 => wipe σ2 vs = wipe σ vs ∧ tt σ2 H2 fun b H3 =>
    if b = true then te σ2 H3 fun y H4 => ∃ acc, H4 D = some (.lst acc) ∧ acc.length < sizeLine ∧ Nx (upd H4 D (.lst (acc ++ [y]))) else Nx H3)
/-- the heap without what stands at D -/
def hide (D : Addr) (H : Hp) : Hp := fun b => if b = D then none else H b
theorem hide_at (D : Addr) (H : Hp) : hide D H D = none := if_pos rfl
theorem hide_ne {D b : Addr} {H : Hp} (h : b ≠ D) : hide D H b = H b := if_neg h
theorem hide_same (D : Addr) (H : Hp) : Same (hide D H) H := fun b o e => by
  by_cases h : b = D
  · subst h; rw [hide_at] at e; cases e
  · rw [hide_ne h] at e; exact e
theorem same_hide {D : Addr} {H H' : Hp} (e : Same H H') (h : H D = none) : Same H (hide D H') := fun b o q => by
  rw [hide_ne (ne_of_none q h)]
  exact e b o q
theorem hide_upd (D : Addr) (H : Hp) (o : HO) : hide D (upd H D o) = hide D H := by
  funext b
  by_cases h : b = D
  · subst h; rw [hide_at, hide_at]
  · rw [hide_ne h, hide_ne h, upd_ne h]
theorem hide_mono {D : Addr} {H H' : Hp} (e : Same H H') : Same (hide D H) (hide D H') := fun b o q => by
  by_cases h : b = D
  · subst h; rw [hide_at] at q; cases q
  · rw [hide_ne h] at q ⊢; exact e b o q
/-- no tuple, nothing frozen -/
def NTup : Option HO → Prop
  | some (.tup _) => False
  | some (.frz _ _) => False
  | _ => True
theorem NTup.lst {H : Hp} {D : Addr} {acc : List V} (h : H D = some (.lst acc)) : NTup (H D) := by rw [h]; trivial
theorem NTup.ins {H : Hp} {D C dx : Addr} {fs : List (Str × V)} (h : H D = some (.ins C dx fs)) : NTup (H D) := by rw [h]; trivial
theorem sq_hide {K : PySem.W.Frag} {D p : Addr} {H : Hp} {xs : List V} (hD : NTup (H D)) (h : Sq false K H p xs) : Sq false K (hide D H) p xs := by
  have h : SqT K H p xs := h
  rcases h with (h | ⟨o, h⟩) | h
  · exact .inl (.inl (by rw [hide_ne (fun e => by rw [← e, h] at hD; exact hD)]; exact h))
  · exact .inl (.inr ⟨o, by rw [hide_ne (fun e => by rw [← e, h] at hD; exact hD)]; exact h⟩)
  · exact .inr h
section
variable {K : PySem.W.Frag} {σ : St} {H : Hp} {tt : TT} {te : TE} {g : TG} {vs : List Nat} {Q : VK}
theorem w_lc {wi : TI} (q : wi σ H fun J H1 => CompOk J g tt te vs σ H1 Q) : tLc wi g tt te vs σ H Q := q
/-- every turn gives one item: R of the turn, the item and the heap without the new list -/
theorem l_comp {J : It} {n : Nat} {G : Hp → Prop} {Y : Nat → Hp → V → Hp → Prop} (w : Walk J n G Y) (hz : n < sizeLine) (R : Nat → V → Hp → Prop) (hR : ∀ i y H1 H2, Same H1 H2 → R i y H1 → R i y H2) (hG : ∀ H', Same H H' → G H')
    (hY : ∀ i x H1 H2, i < n → Y i H1 x H2 → Same H1 H2)
    (hs : ∀ i x H1 H2 D acc (N : VK), i < n → Same H H1 → H D = none → H1 D = some (.lst acc) → Y i H1 x H2 → Same H1 H2 → (∀ y H4, Same H2 H4 → R i y (hide D H4) → N y H4) → g x (wipe σ vs) H2 fun σ2 H3 => wipe σ2 vs = wipe σ vs ∧ te σ2 H3 N)
    (k : ∀ D H' ys, H D = none → Same H H' → H' D = some (.lst ys) → ys.length = n → (∀ (i : Nat) y, ys[i]? = some y → R i y (hide D H')) → Q (.ref D) H') : CompOk J g tYes te vs σ H Q := by
  intro D hD
  refine lc_it w (fun i H' => ∃ ys, H' D = some (.lst ys) ∧ ys.length = i ∧ Same H H' ∧ ∀ (j : Nat) y, ys[j]? = some y → R j y (hide D H')) ?_ (fun i H' _ ⟨ys, _, _, sm, _⟩ => hG H' sm) ?_ ?_
  · exact ⟨[], upd_same, rfl, Same.new hD, fun j y e => by simp at e⟩
  · rintro i x H1 H2 hi ⟨ys, e1, e2, sm, hr⟩ hy
    have s12 := hY i x H1 H2 hi hy
    refine hs i x H1 H2 D ys _ hi sm hD e1 hy s12 fun y H4 s24 r4 => ?_
    have e4 : H4 D = some (.lst ys) := s24 _ _ (s12 _ _ e1)
    refine ⟨ys, e4, by omega, ys ++ [y], upd_same, by rw [List.length_append, e2]; rfl, Same.mut ((sm.trans s12).trans s24) hD, fun j z ez => ?_⟩
    rw [hide_upd]
    by_cases hj : j < ys.length
    · rw [List.getElem?_append_left hj] at ez
      exact hR _ _ _ _ (hide_mono (s12.trans s24)) (hr j z ez)
    · have hlen := (List.getElem?_eq_some_iff.mp ez).1
      rw [List.length_append] at hlen
      have ej : j = ys.length := by
        have : j < ys.length + 1 := hlen
        omega
      subst ej
      rw [List.getElem?_append_right (Nat.le_refl _), Nat.sub_self] at ez
      have ey : y = z := Option.some.inj ez
      subst ey
      rw [e2]
      exact r4
  · rintro H' ⟨ys, e1, e2, sm, hr⟩
    exact k D H' ys hD sm e1 e2 hr
/-- over a list or a tuple -/
theorem l_compS {b : Bool} {a : Addr} {j : Nat} (xs : List V) (hx : Sq b K H a xs) (hz : xs.length < sizeLine) (R : Nat → V → Hp → Prop) (hR : ∀ i y H1 H2, Same H1 H2 → R i y H1 → R i y H2)
    (hw : ∀ x : V, wipe ((wipe σ vs).set j (some x)) vs = wipe σ vs)
    (hs : ∀ (i : Nat) x H1 D acc (N : VK), i < xs.length → xs[i]? = some x → Same H H1 → H D = none → H1 D = some (.lst acc) → (∀ y H4, Same H1 H4 → R i y (hide D H4) → N y H4) → te ((wipe σ vs).set j (some x)) H1 N)
    (k : ∀ D H' ys, H D = none → Same H H' → H' D = some (.lst ys) → ys.length = xs.length → (∀ (i : Nat) y, ys[i]? = some y → R i y (hide D H')) → Q (.ref D) H') :
    ∃ a', V.ref a = .ref a' ∧ ((∃ xs, SqL K H a' xs) ∧ CompOk (Itl K a') (gName j) tYes te vs σ H Q ∨ (∃ xs, SqT K H a' xs) ∧ CompOk (Itt K a') (gName j) tYes te vs σ H Q) := by
  refine ⟨a, rfl, ?_⟩
  cases b with
  | true =>
    refine .inl ⟨⟨xs, hx⟩, l_comp (walk_list (xs := xs)) hz R hR (fun H' sm => sm.sq (b := true) hx) (fun i x H1 H2 hi hy => by rw [hy.1]; exact Same.refl _) (fun i x H1 H2 D acc N hi sm hD e1 hy s12 hN => ?_) k⟩
    obtain ⟨e, ex⟩ := hy
    subst e
    exact ⟨hw x, hs i x _ D acc N hi ex sm hD e1 hN⟩
  | false =>
    refine .inr ⟨⟨xs, hx⟩, l_comp (walk_tup (xs := xs)) hz R hR (fun H' sm => sm.sq (b := false) hx) (fun i x H1 H2 hi hy => by rw [hy.1]; exact Same.refl _) (fun i x H1 H2 D acc N hi sm hD e1 hy s12 hN => ?_) k⟩
    obtain ⟨e, ex⟩ := hy
    subst e
    exact ⟨hw x, hs i x _ D acc N hi ex sm hD e1 hN⟩
/-- over range(n) -/
theorem l_compR {n : Int} {j : Nat} (h1 : -(2 ^ 62) ≤ n) (h2 : n < 16000000) (R : Nat → V → Hp → Prop) (hR : ∀ i y H1 H2, Same H1 H2 → R i y H1 → R i y H2)
    (hw : ∀ x : V, wipe ((wipe σ vs).set j (some x)) vs = wipe σ vs)
    (hs : ∀ (i : Nat) H1 D acc (N : VK), (i : Int) < n → Same H H1 → H D = none → H1 D = some (.lst acc) → (∀ y H4, Same H1 H4 → R i y (hide D H4) → N y H4) → te ((wipe σ vs).set j (some (.int (i : Int)))) H1 N)
    (k : ∀ D H' ys, H D = none → Same H H' → H' D = some (.lst ys) → ys.length = n.toNat → (∀ (i : Nat) y, ys[i]? = some y → R i y (hide D H')) → Q (.ref D) H') :
    ∃ j' : Int, [V.int n] = [.int j'] ∧ -(2 ^ 62) ≤ j' ∧ j' < 2 ^ 62 ∧ CompOk (Itr 0 j'.toNat) (gName j) tYes te vs σ H Q := by
  refine ⟨n, rfl, h1, by omega, l_comp (walk_range (lo := 0) (n := n.toNat)) (by rw [sizeLine_eq]; omega) R hR (fun _ _ => trivial) (fun i x H1 H2 hi hy => by rw [hy.1]; exact Same.refl _) (fun i x H1 H2 D acc N hi sm hD e1 hy s12 hN => ?_) k⟩
  obtain ⟨e, ex⟩ := hy
  subst e ex
  show wipe ((wipe σ vs).set j (some (.int (0 + (i : Int))))) vs = wipe σ vs ∧ te ((wipe σ vs).set j (some (.int (0 + (i : Int))))) _ N
  rw [Int.zero_add]
  exact ⟨hw _, hs i _ D acc N (by omega) sm hD e1 hN⟩
/-- over zip of two -/
theorem l_compZ {b1 b2 : Bool} {a b : Addr} {i1 i2 nn : Nat} (xs ys : List V) (hn : xs.length = ys.length) (hx : Sq b1 K H a xs) (hy : Sq b2 K H b ys) (hz : xs.length < sizeLine) (R : Nat → V → Hp → Prop) (hR : ∀ i y H1 H2, Same H1 H2 → R i y H1 → R i y H2) (hnn : nn = 2)
    (hw : ∀ x y : V, wipe (((wipe σ vs).set i1 (some x)).set i2 (some y)) vs = wipe σ vs)
    (hs : ∀ (i : Nat) x y H1 D acc (N : VK), i < xs.length → xs[i]? = some x → ys[i]? = some y → Same H H1 → H D = none → H1 D = some (.lst acc) → (∀ y H4, Same H1 H4 → R i y (hide D H4) → N y H4) → te (((wipe σ vs).set i1 (some x)).set i2 (some y)) H1 N)
    (k : ∀ D H' ys, H D = none → Same H H' → H' D = some (.lst ys) → ys.length = xs.length → (∀ (i : Nat) y, ys[i]? = some y → R i y (hide D H')) → Q (.ref D) H') :
    ∃ a' b', [V.ref a, V.ref b] = [.ref a', .ref b'] ∧ ∃ b1 b2 xs ys, Sq b1 K H a' xs ∧ Sq b2 K H b' ys ∧ CompOk (ItzS b1 b2 K a' b') (gTup K nn (gCons (gName i1) (gCons (gName i2) gNil))) tYes te vs σ H Q := by
  subst hnn
  refine ⟨a, b, rfl, b1, b2, xs, ys, hx, hy, l_comp (walk_zipS hn) hz R hR (fun H' sm => ⟨sm.sq hx, sm.sq hy⟩) (fun i x H1 H2 hi hy => ?_) (fun i x H1 H2 D acc N hi sm hD e1 hy s12 hN => ?_) k⟩
  · obtain ⟨T, u, v, rfl, hT, e, hu, hv⟩ := hy
    subst e
    exact Same.new hT
  · obtain ⟨T, u, v, rfl, hT, e, hu, hv⟩ := hy
    subst e
    exact w_pair (Sq.tup upd_same) ⟨hw u v, hs i u v _ D acc N hi hu hv (sm.trans s12) hD (s12 _ _ e1) hN⟩
end
end L2

namespace L2
open PySem PySem.Spec PyProof.Rows
/-! ### data over the heap: relations that new objects leave as they are -/
abbrev Rep (α : Type) := Hp → V → α → Prop
def RMono {α : Type} (R : Rep α) : Prop := ∀ H H' v x, Same H H' → R H v x → R H' v x
/-- no list in it: what stands at a list may be left out -/
def RTup {α : Type} (R : Rep α) : Prop := ∀ H D v x, NTup (H D) → R H v x → R (hide D H) v x
def RLst {α : Type} (R : Rep α) : Prop := ∀ H D v x ys, H D = some (.lst ys) → R H v x → R (hide D H) v x
theorem RTup.lst {α : Type} {R : Rep α} (h : RTup R) : RLst R := fun H D v x _ e r => h H D v x (NTup.lst e) r
def RInt : Rep Int := fun _ v i => v = .int i
/-- numbers in a list (true) or a tuple (false) -/
def RVec (b : Bool) (K : PySem.W.Frag) : Rep (List Int) := fun H v ns => ∃ a, v = .ref a ∧ Sq b K H a (ns.map V.int)
def RSeq (b : Bool) (K : PySem.W.Frag) {α : Type} (R : Rep α) : Rep (List α) := fun H v xs => ∃ a vs, v = .ref a ∧ Sq b K H a vs ∧ vs.length = xs.length ∧ ∀ (i : Nat) y x, vs[i]? = some y → xs[i]? = some x → R H y x
def RPair (K : PySem.W.Frag) {α β : Type} (R : Rep α) (S : Rep β) : Rep (α × β) := fun H v p => ∃ a x y, v = .ref a ∧ Sq false K H a [x, y] ∧ R H x p.1 ∧ S H y p.2
section
variable {K : PySem.W.Frag} {α β : Type} {R : Rep α} {S : Rep β} {b : Bool}
theorem RInt.mono : RMono RInt := fun _ _ _ _ _ h => h
theorem RInt.tup : RTup RInt := fun _ _ _ _ _ h => h
theorem RVec.mono : RMono (RVec b K) := fun _ _ _ _ s ⟨a, e, h⟩ => ⟨a, e, s.sq h⟩
theorem RVec.tup : RTup (RVec false K) := fun _ _ _ _ hD ⟨a, e, h⟩ => ⟨a, e, sq_hide hD h⟩
theorem RSeq.mono (hR : RMono R) : RMono (RSeq b K R) := fun _ _ _ _ s ⟨a, vs, e, h, hl, q⟩ => ⟨a, vs, e, s.sq h, hl, fun i y x h1 h2 => hR _ _ _ _ s (q i y x h1 h2)⟩
theorem RSeq.tup (hR : RTup R) : RTup (RSeq false K R) := fun _ _ _ _ hD ⟨a, vs, e, h, hl, q⟩ => ⟨a, vs, e, sq_hide hD h, hl, fun i y x h1 h2 => hR _ _ _ _ hD (q i y x h1 h2)⟩
theorem RPair.mono (hR : RMono R) (hS : RMono S) : RMono (RPair K R S) := fun _ _ _ _ s ⟨a, x, y, e, h, h1, h2⟩ => ⟨a, x, y, e, s.sq h, hR _ _ _ _ s h1, hS _ _ _ _ s h2⟩
theorem RPair.tup (hR : RTup R) (hS : RTup S) : RTup (RPair K R S) := fun _ _ _ _ hD ⟨a, x, y, e, h, h1, h2⟩ => ⟨a, x, y, e, sq_hide hD h, hR _ _ _ _ hD h1, hS _ _ _ _ hD h2⟩
theorem RSeq.get {H : Hp} {vs : List V} {xs : List α} (hl : vs.length = xs.length) (q : ∀ (i : Nat) y x, vs[i]? = some y → xs[i]? = some x → R H y x) {i : Nat} {x : α} (h : xs[i]? = some x) : ∃ y, vs[i]? = some y ∧ R H y x := by
  have hi := (List.getElem?_eq_some_iff.mp h).1
  exact ⟨vs[i], List.getElem?_eq_getElem (by omega), q i _ x (List.getElem?_eq_getElem (by omega)) h⟩
theorem vec_at {ns : List Int} {i : Nat} {y : V} (h : (ns.map V.int)[i]? = some y) : y = .int (nth ns (i : Nat)) ∧ i < ns.length := by
  have hi := (List.getElem?_eq_some_iff.mp h).1
  rw [List.length_map] at hi
  rw [List.getElem?_map, List.getElem?_eq_getElem hi] at h
  refine ⟨?_, hi⟩
  rw [← Option.some.inj h, nth_nat, List.getD_eq_getElem?_getD, List.getElem?_eq_getElem hi]
  rfl
theorem vec_get {ns : List Int} {i : Nat} (hi : i < ns.length) : (ns.map V.int)[i]? = some (.int (nth ns (i : Nat))) := by
  rw [List.getElem?_map, List.getElem?_eq_getElem hi, nth_nat, List.getD_eq_getElem?_getD, List.getElem?_eq_getElem hi]
  rfl
theorem vec_of {ys : List V} {ns : List Int} (hl : ys.length = ns.length) (h : ∀ (i : Nat) y, ys[i]? = some y → y = .int (nth ns (i : Nat))) : ys = ns.map V.int := by
  refine List.ext_getElem? fun i => ?_
  by_cases hi : i < ys.length
  · rw [vec_get (by omega), List.getElem?_eq_getElem hi]
    exact congrArg some (h i _ (List.getElem?_eq_getElem hi))
  · rw [List.getElem?_eq_none (by omega), List.getElem?_eq_none (by rw [List.length_map]; omega)]
end
section
variable {K : PySem.W.Frag} {σ : St} {H : Hp} {te : TE} {vs : List Nat} {Q : VK} {b b1 b2 : Bool} {a a1 a2 : Addr} {j : Nat}
/-- a comprehension that gives numbers -/
theorem c_ints (xs : List V) (hx : Sq b K H a xs) (ms : List Int) (hl : ms.length = xs.length) (hz : xs.length < sizeLine) (hw : ∀ x : V, wipe ((wipe σ vs).set j (some x)) vs = wipe σ vs)
    (hs : ∀ (i : Nat) x H1 (N : VK), i < xs.length → xs[i]? = some x → Same H H1 → (∀ H4, Same H1 H4 → N (.int (nth ms (i : Nat))) H4) → te ((wipe σ vs).set j (some x)) H1 N)
    (k : ∀ D H', H D = none → Same H H' → H' D = some (.lst (ms.map V.int)) → Q (.ref D) H') :
    ∃ a', V.ref a = .ref a' ∧ ((∃ xs, SqL K H a' xs) ∧ CompOk (Itl K a') (gName j) tYes te vs σ H Q ∨ (∃ xs, SqT K H a' xs) ∧ CompOk (Itt K a') (gName j) tYes te vs σ H Q) :=
  l_compS xs hx hz (fun i y _ => y = .int (nth ms (i : Nat))) (fun _ _ _ _ _ h => h) hw (fun i x H1 D acc N hi hxi sm hD e1 hN => hs i x H1 N hi hxi sm fun H4 s4 => hN _ H4 s4 rfl)
    (fun D H' ys hD sm e hly hr => k D H' hD sm (by rw [e, vec_of (by omega) hr]))
theorem c_intsR {n : Int} (h1 : -(2 ^ 62) ≤ n) (h2 : n < 16000000) (ms : List Int) (hl : ms.length = n.toNat) (hw : ∀ x : V, wipe ((wipe σ vs).set j (some x)) vs = wipe σ vs)
    (hs : ∀ (i : Nat) H1 (N : VK), (i : Int) < n → Same H H1 → (∀ H4, Same H1 H4 → N (.int (nth ms (i : Nat))) H4) → te ((wipe σ vs).set j (some (.int (i : Int)))) H1 N)
    (k : ∀ D H', H D = none → Same H H' → H' D = some (.lst (ms.map V.int)) → Q (.ref D) H') :
    ∃ j' : Int, [V.int n] = [.int j'] ∧ -(2 ^ 62) ≤ j' ∧ j' < 2 ^ 62 ∧ CompOk (Itr 0 j'.toNat) (gName j) tYes te vs σ H Q :=
  l_compR h1 h2 (fun i y _ => y = .int (nth ms (i : Nat))) (fun _ _ _ _ _ h => h) hw (fun i H1 D acc N hi sm hD e1 hN => hs i H1 N hi sm fun H4 s4 => hN _ H4 s4 rfl)
    (fun D H' ys hD sm e hly hr => k D H' hD sm (by rw [e, vec_of (by omega) hr]))
theorem c_intsZ {i1 i2 nn : Nat} (xs ys : List V) (hn : xs.length = ys.length) (hx : Sq b1 K H a1 xs) (hy : Sq b2 K H a2 ys) (ms : List Int) (hl : ms.length = xs.length) (hz : xs.length < sizeLine) (hnn : nn = 2)
    (hw : ∀ x y : V, wipe (((wipe σ vs).set i1 (some x)).set i2 (some y)) vs = wipe σ vs)
    (hs : ∀ (i : Nat) x y H1 (N : VK), i < xs.length → xs[i]? = some x → ys[i]? = some y → Same H H1 → (∀ H4, Same H1 H4 → N (.int (nth ms (i : Nat))) H4) → te (((wipe σ vs).set i1 (some x)).set i2 (some y)) H1 N)
    (k : ∀ D H', H D = none → Same H H' → H' D = some (.lst (ms.map V.int)) → Q (.ref D) H') :
    ∃ a' b', [V.ref a1, V.ref a2] = [.ref a', .ref b'] ∧ ∃ b1 b2 xs ys, Sq b1 K H a' xs ∧ Sq b2 K H b' ys ∧ CompOk (ItzS b1 b2 K a' b') (gTup K nn (gCons (gName i1) (gCons (gName i2) gNil))) tYes te vs σ H Q :=
  l_compZ xs ys hn hx hy hz (fun i y _ => y = .int (nth ms (i : Nat))) (fun _ _ _ _ _ h => h) hnn hw (fun i x y H1 D acc N hi hxi hyi sm hD e1 hN => hs i x y H1 N hi hxi hyi sm fun H4 s4 => hN _ H4 s4 rfl)
    (fun D H' zs hD sm e hly hr => k D H' hD sm (by rw [e, vec_of (by omega) hr]))
/-- a comprehension that gives data without the new list in them -/
theorem c_repL {α : Type} {R : Rep α} (hm : RMono R) (ht : RLst R) (xs : List V) (hx : Sq b K H a xs) (ds : List α) (hl : ds.length = xs.length) (hz : xs.length < sizeLine) (hw : ∀ x : V, wipe ((wipe σ vs).set j (some x)) vs = wipe σ vs)
    (hs : ∀ (i : Nat) x d H1 (N : VK), i < xs.length → xs[i]? = some x → ds[i]? = some d → Same H H1 → (∀ y H4, Same H1 H4 → R H4 y d → N y H4) → te ((wipe σ vs).set j (some x)) H1 N)
    (k : ∀ D H' ys, H D = none → Same H H' → H' D = some (.lst ys) → ys.length = ds.length → (∀ (i : Nat) y d, ys[i]? = some y → ds[i]? = some d → R H' y d) → Q (.ref D) H') :
    ∃ a', V.ref a = .ref a' ∧ ((∃ xs, SqL K H a' xs) ∧ CompOk (Itl K a') (gName j) tYes te vs σ H Q ∨ (∃ xs, SqT K H a' xs) ∧ CompOk (Itt K a') (gName j) tYes te vs σ H Q) :=
  l_compS xs hx hz (fun i y H' => ∀ d, ds[i]? = some d → R H' y d) (fun _ _ _ _ s h d hd => hm _ _ _ _ s (h d hd)) hw
    (fun i x H1 D acc N hi hxi sm hD e1 hN => by
      obtain ⟨d, hd⟩ : ∃ d, ds[i]? = some d := ⟨ds[i]'(by omega), List.getElem?_eq_getElem (by omega)⟩
      refine hs i x d H1 N hi hxi hd sm fun y H4 s4 r4 => hN y H4 s4 fun d' hd' => ?_
      rw [hd] at hd'
      cases hd'
      exact ht _ D _ _ _ (s4 _ _ e1) r4)
    (fun D H' ys hD sm e hly hr => k D H' ys hD sm e (by omega) fun i y d h1 h2 => hm _ _ _ _ (hide_same D H') (hr i y h1 d h2))
/-- a comprehension that gives data without lists -/
theorem c_rep {α : Type} {R : Rep α} (hm : RMono R) (ht : RTup R) (xs : List V) (hx : Sq b K H a xs) (ds : List α) (hl : ds.length = xs.length) (hz : xs.length < sizeLine) (hw : ∀ x : V, wipe ((wipe σ vs).set j (some x)) vs = wipe σ vs)
    (hs : ∀ (i : Nat) x d H1 (N : VK), i < xs.length → xs[i]? = some x → ds[i]? = some d → Same H H1 → (∀ y H4, Same H1 H4 → R H4 y d → N y H4) → te ((wipe σ vs).set j (some x)) H1 N)
    (k : ∀ D H' ys, H D = none → Same H H' → H' D = some (.lst ys) → ys.length = ds.length → (∀ (i : Nat) y d, ys[i]? = some y → ds[i]? = some d → R H' y d) → Q (.ref D) H') :
    ∃ a', V.ref a = .ref a' ∧ ((∃ xs, SqL K H a' xs) ∧ CompOk (Itl K a') (gName j) tYes te vs σ H Q ∨ (∃ xs, SqT K H a' xs) ∧ CompOk (Itt K a') (gName j) tYes te vs σ H Q) :=
  c_repL hm ht.lst xs hx ds hl hz hw hs k
theorem c_repR {α : Type} {R : Rep α} {n : Int} (hm : RMono R) (ht : RTup R) (h1 : -(2 ^ 62) ≤ n) (h2 : n < 16000000) (ds : List α) (hl : ds.length = n.toNat) (hw : ∀ x : V, wipe ((wipe σ vs).set j (some x)) vs = wipe σ vs)
    (hs : ∀ (i : Nat) d H1 (N : VK), (i : Int) < n → ds[i]? = some d → Same H H1 → (∀ y H4, Same H1 H4 → R H4 y d → N y H4) → te ((wipe σ vs).set j (some (.int (i : Int)))) H1 N)
    (k : ∀ D H' ys, H D = none → Same H H' → H' D = some (.lst ys) → ys.length = ds.length → (∀ (i : Nat) y d, ys[i]? = some y → ds[i]? = some d → R H' y d) → Q (.ref D) H') :
    ∃ j' : Int, [V.int n] = [.int j'] ∧ -(2 ^ 62) ≤ j' ∧ j' < 2 ^ 62 ∧ CompOk (Itr 0 j'.toNat) (gName j) tYes te vs σ H Q :=
  l_compR h1 h2 (fun i y H' => ∀ d, ds[i]? = some d → R H' y d) (fun _ _ _ _ s h d hd => hm _ _ _ _ s (h d hd)) hw
    (fun i H1 D acc N hi sm hD e1 hN => by
      obtain ⟨d, hd⟩ : ∃ d, ds[i]? = some d := ⟨ds[i]'(by omega), List.getElem?_eq_getElem (by omega)⟩
      refine hs i d H1 N hi hd sm fun y H4 s4 r4 => hN y H4 s4 fun d' hd' => ?_
      rw [hd] at hd'
      cases hd'
      exact ht _ D _ _ (NTup.lst (s4 _ _ e1)) r4)
    (fun D H' ys hD sm e hly hr => k D H' ys hD sm e (by omega) fun i y d h1 h2 => hm _ _ _ _ (hide_same D H') (hr i y h1 d h2))
/-- the same data twice -/
theorem RInt.sm {n : Nat} {x y : V} {i : Int} (h1 : RInt H x i) (h2 : RInt H y i) : Sm K H n x y := by
  cases h1
  cases h2
  exact Sm.int
theorem RSeq.sm {α : Type} {R S : Rep α} {n : Nat} {x y : V} {ds : List α} (hz : ds.length ≤ 100000) (hRS : ∀ x y d, d ∈ ds → R H x d → S H y d → Sm K H n x y) (h1 : RSeq false K R H x ds) (h2 : RSeq b K S H y ds) : Sm K H (n + 1) x y := by
  obtain ⟨a, xs, rfl, hx, hxl, hxr⟩ := h1
  obtain ⟨a', ys, rfl, hy, hyl, hyr⟩ := h2
  refine .inr ⟨a, a', b, xs, ys, rfl, rfl, hx, hy, by omega, by omega, fun i x' y' e1 e2 => ?_⟩
  have hi := (List.getElem?_eq_some_iff.mp e1).1
  have hd : ds[i]? = some (ds[i]'(by omega)) := List.getElem?_eq_getElem (by omega)
  exact hRS _ _ _ (List.mem_of_getElem? hd) (hxr i _ _ e1 hd) (hyr i _ _ e2 hd)
theorem RVec.sm {n : Nat} {x y : V} {ns : List Int} (hz : ns.length ≤ 100000) (h1 : RVec false K H x ns) (h2 : RVec b K H y ns) : Sm K H (n + 1) x y := by
  obtain ⟨a, rfl, hx⟩ := h1
  obtain ⟨a', rfl, hy⟩ := h2
  refine .inr ⟨a, a', b, _, _, rfl, rfl, hx, hy, rfl, by rw [List.length_map]; exact hz, fun i x' y' e1 e2 => ?_⟩
  rw [(vec_at e1).1, (vec_at e2).1]
  exact Sm.int
theorem RPair.sm {α β : Type} {R R' : Rep α} {S S' : Rep β} {n : Nat} {x y : V} {p : α × β} (hR : ∀ x y, R H x p.1 → R' H y p.1 → Sm K H n x y) (hS : ∀ x y, S H x p.2 → S' H y p.2 → Sm K H n x y) (h1 : RPair K R S H x p) (h2 : RPair K R' S' H y p) : Sm K H (n + 1) x y := by
  obtain ⟨a, x1, x2, rfl, hx, r1, r2⟩ := h1
  obtain ⟨a', y1, y2, rfl, hy, q1, q2⟩ := h2
  refine .inr ⟨a, a', false, _, _, rfl, rfl, hx, hy, rfl, by show 2 ≤ 100000; omega, fun i x' y' e1 e2 => ?_⟩
  match i, e1, e2 with
  | 0, e1, e2 => cases e1; cases e2; exact hR _ _ r1 q1
  | 1, e1, e2 => cases e1; cases e2; exact hS _ _ r2 q2
  | i + 2, e1, _ => simp at e1
end
/-! ### fields of objects -/
section
variable {K : PySem.W.Frag} {σ : St} {H : Hp} {v : V} {Q : VK} {ta : TE} {D : Ends}
theorem lk_here {f : Str} {v : V} {r : List (Str × V)} : List.lookup f ((f, v) :: r) = some v := by simp [List.lookup]
theorem lk_next {f g : Str} {v : V} {r : List (Str × V)} {o : Option V} (h : (f == g) = false) (q : List.lookup f r = o) : List.lookup f ((g, v) :: r) = o := by
  rw [List.lookup, h]; exact q
theorem pf_here {f : Str} {v u : V} {r : List (Str × V)} : putF f v ((f, u) :: r) = (f, v) :: r := by
  show (if f = f then _ else _) = _
  rw [if_pos rfl]
theorem pf_next {f g : Str} {v u : V} {r r' : List (Str × V)} (h : (g == f) = false) (q : putF f v r = r') : putF f v ((g, u) :: r) = (g, u) :: r' := by
  have hne : ¬ g = f := fun e => by rw [e] at h; simp at h
  show (if g = f then _ else (g, u) :: putF f v r) = _
  rw [if_neg hne, q]
theorem pf_nil {f : Str} {v : V} : putF f v [] = [(f, v)] := rfl
theorem w_fld {f : Str} (q : ta σ H fun x H1 => ∃ a C dx fs v, x = .ref a ∧ H1 a = some (.ins C dx fs) ∧ Cls K C ∧ NoAttr K C f ∧ fs.lookup f = some v ∧ Q v H1) : tFld K ta f σ H Q := q
theorem w_fldAt {f : Str} {p C dx : Addr} {fs : List (Str × V)} (h : H p = some (.ins C dx fs)) (c : Cls K C) (n : NoAttr K C f) (l : fs.lookup f = some v) {F : V → Prop} (q : F v) :
    ∃ a C dx fs v, V.ref p = .ref a ∧ H a = some (.ins C dx fs) ∧ Cls K C ∧ NoAttr K C f ∧ fs.lookup f = some v ∧ F v := ⟨p, C, dx, fs, v, rfl, h, c, n, l, q⟩
theorem w_sfld {f : Str} {tv : TE} {nx b' c' : St → Hp → Prop} {rt : VK} (q : tv σ H fun y H1 => ta σ H1 fun x H2 => ∃ a C dx fs, x = .ref a ∧ H2 a = some (.ins C dx fs) ∧ Cls K C ∧ NoAttr K C f ∧ fs.length < 1000 ∧ nx σ (upd H2 a (.ins C dx (putF f y fs)))) : sFld K ta tv f ⟨nx, rt, b', c'⟩ σ H := q
theorem w_sfldAt {f : Str} {p C dx : Addr} {fs fs' : List (Str × V)} {y : V} (h : H p = some (.ins C dx fs)) (c : Cls K C) (n : NoAttr K C f) (hl : fs.length < 1000) (e : putF f y fs = fs') {F : Hp → Prop} (q : F (upd H p (.ins C dx fs'))) :
    ∃ a C dx fs, V.ref p = .ref a ∧ H a = some (.ins C dx fs) ∧ Cls K C ∧ NoAttr K C f ∧ fs.length < 1000 ∧ F (upd H a (.ins C dx (putF f y fs))) := ⟨p, C, dx, fs, rfl, h, c, n, hl, by rw [e]; exact q⟩
theorem w_meth {C : Addr} {m : Str} {sp : Sp} {dvs : List V} {E : XK} {t : TA} (q : ta σ H fun x H1 => ∃ a dx fs, x = .ref a ∧ H1 a = some (.ins C dx fs) ∧ fs.lookup m = none ∧ t σ H1 fun vs H2 => sp (x :: (vs ++ dvs)) H2 Q E) : tMeth C m sp dvs E ta t σ H Q := q
theorem w_methAt {m : Str} {p C dx : Addr} {fs : List (Str × V)} {B : Prop} (h : H p = some (.ins C dx fs)) (l : fs.lookup m = none) (q : B) : ∃ a dx fs, V.ref p = .ref a ∧ H a = some (.ins C dx fs) ∧ fs.lookup m = none ∧ B := ⟨p, dx, fs, rfl, h, l, q⟩
theorem w_make {C : Addr} {sp : Sp} {dvs : List V} {E : XK} {t : TA} (q : t σ H fun vs H1 => ∀ x dx, H1 x = none → H1 dx = none → dx ≠ x → sp (.ref x :: (vs ++ dvs)) (upd (upd H1 dx (.own x)) x (.ins C dx [])) (fun v H2 => v = .non ∧ Q (.ref x) H2) E) : tMake C sp dvs E t σ H Q := q
theorem w_notInS {neg : Bool} {x : V} {p : Addr} {xs : List V} {b : Bool} (h : Sq b K H p xs) (hx : flatV x = true) (ha : xs.all flatV = true) (q : Q (.bl (if neg then !inV x xs else inV x xs)) H) : rIn K neg x (.ref p) H Q := ⟨p, xs, rfl, h.or, hx, ha, q⟩
theorem w_chain {r r' : R2} {tb tc : TE} (q : ta σ H fun x H1 => tb σ H1 fun y H2 => r x y H2 fun z H3 => ∃ k, z = .bl k ∧ if k = true then tc σ H3 fun w H4 => r' y w H4 Q else Q (.bl false) H3) : tChain r r' ta tb tc σ H Q := q
end
end L2

namespace L2
open PySem PySem.Spec PyProof.Rows
theorem RTup.upd {α : Type} {R : Rep α} (ht : RTup R) (hm : RMono R) {H : Hp} {D : Addr} {o : HO} {v : V} {x : α} (hD : NTup (H D)) (h : R H v x) : R (L2.upd H D o) v x := by
  have h1 := ht _ _ _ _ hD h
  rw [← hide_upd D H o] at h1
  exact hm _ _ _ _ (hide_same D _) h1
/-- a list that a loop fills: at D, its items relate to the data without the list itself -/
structure Filled {α : Type} (R : Rep α) (H0 H : Hp) (D : Addr) (ds : List α) : Prop where
  new : H0 D = none
  same : Same H0 H
  at_ : ∃ ys, H D = some (.lst ys) ∧ ys.length = ds.length ∧ ∀ (i : Nat) y d, ys[i]? = some y → ds[i]? = some d → R (hide D H) y d
theorem Filled.nil {α : Type} {R : Rep α} {H : Hp} {D : Addr} (h : H D = none) : Filled R H (L2.upd H D (.lst [])) D [] :=
  ⟨h, Same.new h, [], upd_same, rfl, fun i y d e => by simp at e⟩
theorem Filled.mono {α : Type} {R : Rep α} (hm : RMono R) {H0 H H' : Hp} {D : Addr} {ds : List α} (f : Filled R H0 H D ds) (s : Same H H') : Filled R H0 H' D ds := by
  obtain ⟨ys, e, hl, hr⟩ := f.at_
  exact ⟨f.new, f.same.trans s, ys, s _ _ e, hl, fun i y d h1 h2 => hm _ _ _ _ (hide_mono s) (hr i y d h1 h2)⟩
theorem Filled.push {α : Type} {R : Rep α} {H0 H : Hp} {D : Addr} {ds : List α} {d : α} {y : V} (f : Filled R H0 H D ds) (hy : R (hide D H) y d) : ∃ ys, H D = some (.lst ys) ∧ ys.length = ds.length ∧ Filled R H0 (L2.upd H D (.lst (ys ++ [y]))) D (ds ++ [d]) := by
  obtain ⟨ys, e, hl, hr⟩ := f.at_
  refine ⟨ys, e, hl, f.new, Same.mut f.same f.new, ys ++ [y], upd_same, by simp [hl], fun i y' d' h1 h2 => ?_⟩
  rw [hide_upd]
  by_cases hi : i < ys.length
  · rw [List.getElem?_append_left hi] at h1
    rw [List.getElem?_append_left (by omega)] at h2
    exact hr i y' d' h1 h2
  · have h3 := (List.getElem?_eq_some_iff.mp h1).1
    rw [List.length_append] at h3
    have ei : i = ys.length := by
      have : i < ys.length + 1 := h3
      omega
    subst ei
    rw [List.getElem?_append_right (Nat.le_refl _), Nat.sub_self] at h1
    rw [hl, List.getElem?_append_right (Nat.le_refl _), Nat.sub_self] at h2
    cases h1
    cases h2
    exact hy
theorem Filled.seq {α : Type} {R : Rep α} (hm : RMono R) {K : PySem.W.Frag} {H0 H : Hp} {D : Addr} {ds : List α} (f : Filled R H0 H D ds) : RSeq true K R H (.ref D) ds := by
  obtain ⟨ys, e, hl, hr⟩ := f.at_
  exact ⟨D, ys, rfl, Sq.lst e, hl, fun i y d h1 h2 => hm _ _ _ _ (hide_same D H) (hr i y d h1 h2)⟩
section
variable {K : PySem.W.Frag} {σ : St} {H : Hp} {N : St → Hp → Prop}
theorem w_pairG {i : Nat} {g : TG} {a : Addr} {x y : V} (h : Sq false K H a [x, y]) (q : g y (σ.set i (some x)) H N) : gTup K 2 (gCons (gName i) (gCons g gNil)) (.ref a) σ H N :=
  ⟨a, [x, y], rfl, h, rfl, x, [y], rfl, y, [], rfl, (by
    have : (fun σ' H' => gNil [] σ' H' N) = N := by
      funext σ' H'
      exact propext ⟨fun h => h.2, fun h => ⟨rfl, h⟩⟩
    rw [this]; exact q)⟩
theorem w_trip {i j k : Nat} {a : Addr} {x y z : V} (h : Sq false K H a [x, y, z]) (q : N (((σ.set i (some x)).set j (some y)).set k (some z)) H) : gTup K 3 (gCons (gName i) (gCons (gName j) (gCons (gName k) gNil))) (.ref a) σ H N :=
  ⟨a, [x, y, z], rfl, h, rfl, x, [y, z], rfl, y, [z], rfl, z, [], rfl, rfl, q⟩
theorem w_five {i1 i2 i3 i4 i5 : Nat} {a : Addr} {x1 x2 x3 x4 x5 : V} (h : Sq false K H a [x1, x2, x3, x4, x5]) (q : N (((((σ.set i1 (some x1)).set i2 (some x2)).set i3 (some x3)).set i4 (some x4)).set i5 (some x5)) H) :
    gTup K 5 (gCons (gName i1) (gCons (gName i2) (gCons (gName i3) (gCons (gName i4) (gCons (gName i5) gNil))))) (.ref a) σ H N :=
  ⟨a, [x1, x2, x3, x4, x5], rfl, h, rfl, x1, [x2, x3, x4, x5], rfl, x2, [x3, x4, x5], rfl, x3, [x4, x5], rfl, x4, [x5], rfl, x5, [], rfl, rfl, q⟩
theorem RSeq.five {α : Type} {R : Rep α} {v : V} {d0 d1 d2 d3 d4 : α} (h : RSeq false K R H v [d0, d1, d2, d3, d4]) : ∃ a x0 x1 x2 x3 x4, v = .ref a ∧ Sq false K H a [x0, x1, x2, x3, x4] ∧ R H x0 d0 ∧ R H x1 d1 ∧ R H x2 d2 ∧ R H x3 d3 ∧ R H x4 d4 := by
  obtain ⟨a, vs, e, hs, hl, hr⟩ := h
  match vs, hl with
  | [x0, x1, x2, x3, x4], _ => exact ⟨a, x0, x1, x2, x3, x4, e, hs, hr 0 _ _ rfl rfl, hr 1 _ _ rfl rfl, hr 2 _ _ rfl rfl, hr 3 _ _ rfl rfl, hr 4 _ _ rfl rfl⟩
theorem RSeq.lt {α : Type} {R : Rep α} {b : Bool} {v : V} {ds : List α} (h : RSeq b K R H v ds) : ∃ a vs, v = .ref a ∧ Sq b K H a vs ∧ vs.length = ds.length ∧ ∀ (i : Nat) y x, vs[i]? = some y → ds[i]? = some x → R H y x := h
/-- cuts of lists -/
theorem cutV_fromto {xs : List V} {a b : Nat} (h : a ≤ b) (hb : b ≤ xs.length) : cutV xs (some (a : Int)) (some (b : Int)) = (xs.drop a).take (b - a) := by
  unfold cutV
  rw [HT.sIx_nat, HT.sIx_nat, Nat.min_eq_left hb, Nat.min_eq_left (Nat.le_trans h hb)]
theorem cutV_upto {xs : List V} {b : Nat} (hb : b ≤ xs.length) : cutV xs none (some (b : Int)) = xs.take b := by
  unfold cutV
  rw [HT.sIx_none, HT.sIx_nat, Nat.min_eq_left hb, List.drop_zero, Nat.sub_zero]
theorem cutV_from {xs : List V} {a : Nat} (ha : a ≤ xs.length) : cutV xs (some (a : Int)) none = xs.drop a := by
  unfold cutV
  rw [HT.sIx_none, HT.sIx_nat, Nat.min_eq_left ha, List.take_of_length_le (by rw [List.length_drop]; omega)]
theorem w_slC {a : Addr} {xs ys : List V} {lo hi : Option Int} {Q : VK} (h : Sq true K H a xs) (e : cutV xs lo hi = ys) (q : ∀ p, H p = none → Q (.ref p) (L2.upd H p (.lst ys))) : rSlG K (.ref a) lo hi H Q :=
  .inl ⟨a, xs, rfl, h, fun p hp => by rw [e]; exact q p hp⟩
theorem cutV_int {xs : List V} {a b : Int} (h0 : 0 ≤ a) (h : a ≤ b) (hb : b ≤ xs.length) : cutV xs (some a) (some b) = (xs.drop a.toNat).take (b.toNat - a.toNat) := by
  obtain ⟨n, rfl⟩ := Int.eq_ofNat_of_zero_le h0
  obtain ⟨m, rfl⟩ := Int.eq_ofNat_of_zero_le (Int.le_trans h0 h)
  rw [Int.toNat_natCast, Int.toNat_natCast]
  exact cutV_fromto (by omega) (by omega)
theorem cutV_intTo {xs : List V} {b : Int} (h0 : 0 ≤ b) (hb : b ≤ xs.length) : cutV xs none (some b) = xs.take b.toNat := by
  obtain ⟨m, rfl⟩ := Int.eq_ofNat_of_zero_le h0
  rw [Int.toNat_natCast]
  exact cutV_upto (by omega)
/-- a cut of a list or of a tuple -/
theorem w_slAny {b : Bool} {a : Addr} {xs ys : List V} {lo hi : Option Int} {Q : VK} (h : Sq b K H a xs) (e : cutV xs lo hi = ys) (q : ∀ p H', Same H H' → Sq b K H' p ys → Q (.ref p) H') : rSlG K (.ref a) lo hi H Q := by
  cases b with
  | true => exact .inl ⟨a, xs, rfl, h, fun p hp => q _ _ (Same.new hp) (Sq.lst (by rw [upd_same, e]))⟩
  | false =>
    refine .inr ⟨a, xs, rfl, h, fun hw => ?_, fun _ p hp => q _ _ (Same.new hp) (Sq.tup (by rw [upd_same, e]))⟩
    have e2 : xs = ys := by
      rw [← e]
      unfold cutV
      rw [hw.1, hw.2, List.drop_zero, Nat.sub_zero, List.take_length]
    exact q _ _ (Same.refl _) (e2 ▸ h)
theorem rep_cut {α : Type} {R : Rep α} {vs : List V} {xs : List α} (hr : ∀ (i : Nat) y x, vs[i]? = some y → xs[i]? = some x → R H y x) (a n : Nat) : ∀ (i : Nat) y x, ((vs.drop a).take n)[i]? = some y → ((xs.drop a).take n)[i]? = some x → R H y x := fun i y x h1 h2 => by
  rw [List.getElem?_take] at h1 h2
  split at h1
  · rw [if_pos (by assumption), List.getElem?_drop] at h2
    rw [List.getElem?_drop] at h1
    exact hr _ _ _ h1 h2
  · cases h1
theorem rep_to {α : Type} {R : Rep α} {vs : List V} {xs : List α} (hr : ∀ (i : Nat) y x, vs[i]? = some y → xs[i]? = some x → R H y x) (n : Nat) : ∀ (i : Nat) y x, (vs.take n)[i]? = some y → (xs.take n)[i]? = some x → R H y x := rep_cut hr 0 n
/-- adding two lists -/
theorem w_catLL {l b : Addr} {xs zs : List V} {Q : VK} (h1 : H l = some (.lst xs)) (h2 : H b = some (.lst zs)) (hz : xs.length + zs.length ≤ sizeLine) (q : ∀ p, H p = none → Q (.ref p) (L2.upd H p (.lst (xs ++ zs)))) : rAddG K (.ref l) (.ref b) H Q :=
  .inr (.inr ⟨l, b, xs, zs, rfl, rfl, h1, h2, hz, q⟩)
end
end L2

namespace L2
open PySem PySem.Spec PyProof.Rows
/-! ### data without lists, equal to itself -/
mutual
theorem eqv_refl : ∀ d : PyData, d.canLay0 = true → PyData.eqv d d = true
  | .none, _ => by simp only [PyData.eqv]
  | .bool b, _ => by simp only [PyData.eqv, beq_self_eq_true]
  | .int i, _ => by simp only [PyData.eqv, beq_self_eq_true]
  | .str x, _ => by simp only [PyData.eqv, beq_self_eq_true]
  | .list xs, h => by
    simp only [PyData.eqv]
    exact eqvAll_refl xs (by simpa only [PyData.canLay0] using h)
  | .tuple xs, h => by
    simp only [PyData.eqv]
    exact eqvAll_refl xs (by simpa only [PyData.canLay0] using h)
  | .dict _, h => by simp only [PyData.canLay0] at h; cases h
theorem eqvAll_refl : ∀ ds : List PyData, PyData.canLayAll0 ds = true → PyData.eqvAll ds ds = true
  | [], _ => by simp only [PyData.eqvAll]
  | d :: r, h => by
    simp only [PyData.canLayAll0, Bool.and_eq_true] at h
    simp only [PyData.eqvAll, eqv_refl d h.1, eqvAll_refl r h.2, Bool.and_self]
end
/-- data of a kind: as PyData, laid, no deeper than n -/
structure Dat {α : Type} (K : PySem.W.Frag) (R : Rep α) (f : α → PyData) (n : Nat) : Prop where
  dp : ∀ H v d, R H v d → Dp K H v (f d)
  lay : ∀ d, (f d).canLay0 = true
  deep : ∀ d, (f d).depth ≤ n
theorem canLayAll_map {α : Type} {f : α → PyData} (h : ∀ d, (f d).canLay0 = true) : ∀ ds : List α, PyData.canLayAll0 (ds.map f) = true
  | [] => by simp only [List.map_nil, PyData.canLayAll0]
  | d :: r => by simp only [List.map_cons, PyData.canLayAll0, h d, canLayAll_map h r, Bool.and_self]
theorem depthAll_map {α : Type} {f : α → PyData} {n : Nat} (h : ∀ d, (f d).depth ≤ n) : ∀ ds : List α, PyData.depthAll (ds.map f) ≤ n
  | [] => by simp only [List.map_nil, PyData.depthAll]; exact Nat.zero_le _
  | d :: r => by
    simp only [List.map_cons, PyData.depthAll]
    exact Nat.max_le.mpr ⟨h d, depthAll_map h r⟩
theorem dpAll_map {α : Type} {K : PySem.W.Frag} {R : Rep α} {f : α → PyData} {H : Hp} (h : ∀ v d, R H v d → Dp K H v (f d)) : ∀ {vs : List V} {ds : List α}, vs.length = ds.length → (∀ (i : Nat) y x, vs[i]? = some y → ds[i]? = some x → R H y x) → DpAll K H vs (ds.map f)
  | [], [], _, _ => .nil
  | v :: vs, d :: ds, hl, hr => .cons (h v d (hr 0 v d rfl rfl)) (dpAll_map h (by simpa using hl) fun i y x h1 h2 => hr (i + 1) y x (by simpa using h1) (by simpa using h2))
theorem Dat.seq {α : Type} {K : PySem.W.Frag} {R : Rep α} {f : α → PyData} {n : Nat} (h : Dat K R f n) : Dat K (RSeq false K R) (fun ds => .tuple (ds.map f)) (n + 1) where
  dp := fun H v ds ⟨a, vs, e, hs, hl, hr⟩ => by subst e; exact .tup hs (dpAll_map (h.dp H) hl hr)
  lay := fun ds => by simp only [PyData.canLay0]; exact canLayAll_map h.lay ds
  deep := fun ds => by simp only [PyData.depth]; exact Nat.succ_le_succ (depthAll_map h.deep ds)
theorem Dat.vec {K : PySem.W.Frag} : Dat K (RVec false K) (fun ns => .tuple (ns.map PyData.int)) 1 where
  dp := fun H v ns ⟨a, e, hs⟩ => by subst e; exact .tup hs dpAll_ints
  lay := fun ns => by simp only [PyData.canLay0]; exact canLay_ints ns
  deep := fun ns => by simp only [PyData.depth, depth_ints]; exact Nat.le_refl _
theorem Dat.pair {α β : Type} {K : PySem.W.Frag} {R : Rep α} {S : Rep β} {f : α → PyData} {g : β → PyData} {n : Nat} (h : Dat K R f n) (h' : Dat K S g n) : Dat K (RPair K R S) (fun p => .tuple [f p.1, g p.2]) (n + 1) where
  dp := fun H v p ⟨a, x, y, e, hs, h1, h2⟩ => by subst e; exact .tup hs (.cons (h.dp _ _ _ h1) (.cons (h'.dp _ _ _ h2) .nil))
  lay := fun p => by simp only [PyData.canLay0, PyData.canLayAll0, h.lay, h'.lay, Bool.and_self]
  deep := fun p => by
    simp only [PyData.depth, PyData.depthAll]
    exact Nat.succ_le_succ (Nat.max_le.mpr ⟨h.deep _, Nat.max_le.mpr ⟨h'.deep _, Nat.zero_le _⟩⟩)
theorem Dat.up {α : Type} {K : PySem.W.Frag} {R : Rep α} {f : α → PyData} {n m : Nat} (h : Dat K R f n) (hm : n ≤ m) : Dat K R f m := ⟨h.dp, h.lay, fun d => Nat.le_trans (h.deep d) hm⟩
theorem Dat.shaped {α : Type} {K : PySem.W.Frag} {R : Rep α} {f : α → PyData} {n : Nat} (h : Dat K R f n) (hn : n ≤ 64) (d : α) : SeqAt.shaped (f d) = true := by
  unfold SeqAt.shaped
  rw [h.lay, decide_eq_true (Nat.le_trans (h.deep d) hn)]
  rfl
theorem w_neSame {α : Type} {K : PySem.W.Frag} {H : Hp} {Q : VK} {R : Rep α} {f : α → PyData} {n : Nat} (h : Dat K R f n) (hn : n ≤ 64) {x y : V} {d : α} (hx : R H x d) (hy : R H y d) (q : Q (.bl false) H) : rNeG K x y H Q :=
  w_neD (h.dp _ _ _ hx) (h.dp _ _ _ hy) (h.shaped hn d) (h.shaped hn d) (by rw [eqv_refl _ (h.lay d)]; exact q)
theorem w_eqSame {α : Type} {K : PySem.W.Frag} {H : Hp} {Q : VK} {R : Rep α} {f : α → PyData} {n : Nat} (h : Dat K R f n) (hn : n ≤ 64) {x y : V} {d : α} (hx : R H x d) (hy : R H y d) (q : Q (.bl true) H) : rEqG K x y H Q :=
  w_eqD (h.dp _ _ _ hx) (h.dp _ _ _ hy) (h.shaped hn d) (h.shaped hn d) (by rw [eqv_refl _ (h.lay d)]; exact q)
theorem sIx_neg (n d : Nat) : HT.sIx n d (some (-1)) = n - 1 := by
  show (if (-1 : Int) < 0 then ((-1 : Int) + (n : Int)).toNat else min (-1 : Int).toNat n) = n - 1
  rw [if_pos (by decide)]
  omega
theorem cutV_neg {xs : List V} : cutV xs none (some (-1)) = xs.take (xs.length - 1) := by
  unfold cutV
  rw [HT.sIx_none, sIx_neg, List.drop_zero, Nat.sub_zero]
theorem cutV_negFrom {xs : List V} : cutV xs (some (-1)) none = xs.drop (xs.length - 1) := by
  unfold cutV
  rw [HT.sIx_none, sIx_neg, List.take_of_length_le (by rw [List.length_drop]; omega)]
end L2

namespace L2
open PySem PySem.Spec PyProof.Rows
/-! ### the rules that name the written part, K said (within a comprehension's block it is told by rfl) -/
section
variable {X : Cx} {K : PySem.W.Frag} {a b : Expr} {ta tb : TE} {pos : Pos}
theorem k_addG (h : X.K = K) : OpR X (binaryOp .Add) (rAddG K) := h ▸ op_addG
theorem k_eqG (h : X.K = K) (hu : X.A.units + 64 < cLine) : OpR X (compareOp .Eq) (rEqG K) := h ▸ op_eqG hu
theorem k_neG (h : X.K = K) (hu : X.A.units + 64 < cLine) : OpR X (compareOp .NotEq) (rNeG K) := h ▸ op_neG hu
theorem k_inS (h : X.K = K) : OpR X (compareOp .In) (rIn K false) := h ▸ op_in_seq
theorem k_notInS (h : X.K = K) : OpR X (compareOp .NotIn) (rIn K true) := h ▸ op_notIn_seq
theorem k_slG (h : X.K = K) : SlR X (rSlG K) := h ▸ sl_seqG
theorem k_ix (h : X.K = K) : IxR X (rIx K) := h ▸ ix_seq
theorem k_sumS (h : X.K = K) (hc : X.calm = true) : CallR X (.builtin "sum") (rSumS K) := h ▸ cr_sumS hc
theorem k_lenS (h : X.K = K) : CallR X (.builtin "len") (rLenS K) := h ▸ cr_lenS
theorem k_listS (h : X.K = K) : CallR X (.type "list") (rListS K) := h ▸ cr_listS
theorem k_tupS (h : X.K = K) : CallR X (.type "tuple") (rTupS K) := h ▸ cr_tupS
theorem k_isi (h : X.K = K) : CallR X (.builtin "isinstance") (rIsi K) := h ▸ call_isi
theorem k_max (h : X.K = K) (hc : X.calm = true) : CallR X (.builtin "max") (rMax K) := h ▸ cr_max hc
theorem k_min (h : X.K = K) (hc : X.calm = true) : CallR X (.builtin "min") (rMin K) := h ▸ cr_min hc
theorem k_index (h : X.K = K) : MtR X "list.index" (rIndex K) := h ▸ mt_index
theorem k_tru {e : Expr} {te : TE} (h : X.K = K) (he : PE X e te) (hi : ∀ whole, isTrue e X.env whole = (do let v ← whole; standAt e.pos; holding [v] (truthy v))) : PT X e (tTru K te) := h ▸ pt_tru he hi
theorem k_fld {e : Expr} {f : Str} (h : X.K = K) (he : PE X e ta) (hb : attributeBase e f X.env (eval e X.env) = eval e X.env) : PE X (.Attribute e f pos) (tFld K ta f) := h ▸ pe_fld he hb
theorem k_sfld {o value : Expr} {f : Str} {pos' : Pos} {tv : TE} (h : X.K = K) (ha : PE X o ta) (hv : PE X value tv) (hs : swapsWith value (some (.Attribute o f pos')) pos.line X.env = pure false) : PS X (.Assign [.Attribute o f pos'] value pos) (sFld K ta tv f) := h ▸ ps_fld ha hv hs
theorem k_tup {es : List Expr} {kk : Nat} {t : TGs} {n : Nat} (h : X.K = K) (hc : X.calm = true) (hg : PGs X es t) (hn : (assignEach es X.env).length = n := by rfl) (hst : (assignEach es X.env).findIdx? (·.1) = none := by rfl) :
    PG X (.Tuple es kk pos) (gTup K n t) := h ▸ pg_tup hc hg hn hst
theorem k_seqS {tg l : Expr} {tl : TE} (h : X.K = K) (hl : PE X l tl) : PI X tg l (iSeq K tl) := h ▸ pi_seqS hl
theorem k_enumS {e : Expr} {ta : TA} {p pos tpos : Pos} {elts : List Expr} {kk : Nat} (h : X.K = K) (hg : Gl X "enumerate") (hm : X.mg "enumerate" = none) (ha : PA X [e] ta) (hs : starEach [e] X.env = [(false, eval e X.env)] := by rfl) :
    PI X (.Tuple elts kk tpos) (.Call (.Name "enumerate" p) [e] [] pos) (iEnumS K ta) := h ▸ pi_enumS hg hm ha hs
theorem k_zipS {e e2 : Expr} {ta : TA} {p pos tpos : Pos} {elts : List Expr} {kk : Nat} (h : X.K = K) (hg : Gl X "zip") (hm : X.mg "zip" = none) (ha : PA X [e, e2] ta)
    (hs : starEach [e, e2] X.env = (false, eval e X.env) :: starEach [e2] X.env := by rfl) (hpl : (backTo pos (starEach [e2] X.env)).any (·.1) = false := by rfl) :
    PI X (.Tuple elts kk tpos) (.Call (.Name "zip" p) [e, e2] [] pos) (iZipS K ta) := h ▸ pi_zipS hg hm ha hs hpl
theorem k_bm {o e : Expr} {es : List Expr} {to : TE} {t : TA} {name : Str} {apos cpos : Pos} {T id : String} {r : V → List V → Hp → VK → Prop} (h : X.K = K)
    (pa : PlainAttrs T) (slot : Slot T name id) (hty : typeOf (.builtin id) = pure (.type "method_descriptor")) (hm : MtR X id r) (ho : PE X o to) (ha : PA X (e :: es) t)
    (hbase : attributeBase o name X.env (eval o X.env) = eval o X.env := by rfl)
    (hfew : ((backTo cpos (starEach (e :: es) X.env)).all (fun x => !x.1) && (backToKw cpos (keywordEach [] X.env)).all (fun x => x.1.isSome)
      && decide ((e :: es).length + ([] : List Keyword).length + (if ([] : List Keyword).isEmpty then 0 else 1) < 30)) = true := by rfl)
    (hline : (apos.endLine == cpos.line) = true := by rfl) (hs : starEach (e :: es) X.env = (false, eval e X.env) :: starEach es X.env := by rfl) (hplain : (backTo cpos (starEach es X.env)).any (·.1) = false := by rfl) :
    PE X (.Call (.Attribute o name apos) (e :: es) [] cpos) (tBM K T r to t) := h ▸ pe_bm pa slot hty hm ho ha hbase hfew hline hs hplain
end
end L2

namespace L2
open PySem PySem.Spec PyProof.Rows
/-! ### dicts with texts as keys: read, written, made -/
theorem u1 {n : Nat} (h : n + 64 < cLine) : n + 1 < cLine := by omega
section
variable {K : PySem.W.Frag} {σ : St} {H : Hp} {v : V} {Q : VK} {td ty tv : TE} {a : Addr} {kvs kvs' : List (Key × V)} {s : Str}
theorem w_dget (q : td σ H fun x H1 => ty σ H1 fun y H2 => ∃ a v, x = .ref a ∧ DGet H2 a y (some v) ∧ Q v H2) : tDGet td ty σ H Q := q
theorem w_dgetAt (h : H a = some (.dK kvs)) (l : valV kvs (.inr s) = some v) {F : V → Prop} (q : F v) : ∃ a' v', V.ref a = .ref a' ∧ DGet H a' (.str s) (some v') ∧ F v' := ⟨a, v, rfl, by rw [← l]; exact DGet.k (k := .inr s) h, q⟩
theorem w_dput {nx b' c' : St → Hp → Prop} {rt : VK} (q : tv σ H fun v H1 => td σ H1 fun x H2 => ty σ H2 fun y H3 => ∃ a H4, x = .ref a ∧ DPut H3 a y v H4 ∧ nx σ H4) : sDPut td ty tv ⟨nx, rt, b', c'⟩ σ H := q
theorem w_dputAt (h : H a = some (.dK kvs)) (hl : kvs.length < 1000) (e : putK kvs (.inr s) v = kvs') {F : Hp → Prop} (q : F (upd H a (.dK kvs'))) : ∃ a' H4, V.ref a = .ref a' ∧ DPut H a' (.str s) v H4 ∧ F H4 :=
  ⟨a, _, rfl, DPut.k (k := .inr s) h (by rw [sizeLine_eq]; omega), by rw [e]; exact q⟩
theorem w_disp {trs : List (TE × TE)} (q : ∀ p, H p = none → tPairs trs σ (upd H p (.dK [])) fun ps H2 => H2 p = some (.dK []) ∧ ∃ kvs : List (Key × V), ps = kvs.map (fun kv => (kV kv.1, kv.2)) ∧ kvs.length ≤ 15 ∧ Q (.ref p) (upd H2 p (.dK (mergeK [] kvs)))) : tDisp trs σ H Q := q
theorem w_pair0 {Qp : List (V × V) → Hp → Prop} (q : Qp [] H) : tPairs [] σ H Qp := q
theorem w_pair1 {Qp : List (V × V) → Hp → Prop} {tk tv : TE} {r : List (TE × TE)} (q : tk σ H fun x H1 => tv σ H1 fun y H2 => tPairs r σ H2 fun ps H3 => Qp ((x, y) :: ps) H3) : tPairs ((tk, tv) :: r) σ H Qp := q
end
/-- what stands elsewhere than at t stays -/
def Fr (t : Addr) (H H' : Hp) : Prop := ∀ b o, b ≠ t → H b = some o → H' b = some o
theorem Fr.refl (t : Addr) (H : Hp) : Fr t H H := fun _ _ _ e => e
theorem Fr.trans {t : Addr} {H H' H'' : Hp} (h : Fr t H H') (h' : Fr t H' H'') : Fr t H H'' := fun b o n e => h' b o n (h b o n e)
theorem Fr.upd {t : Addr} {H H' : Hp} (h : Fr t H H') (o : HO) : Fr t H (upd H' t o) := fun b u n e => by
  rw [upd_ne n]
  exact h b u n e
theorem Fr.same {t : Addr} {H H' : Hp} (h : Same H H') : Fr t H H' := fun b o _ e => h b o e
theorem Fr.sq {t : Addr} {H H' : Hp} {b : Bool} {K : PySem.W.Frag} {a : Addr} {xs : List V} (f : Fr t H H') (ht : ∃ kvs, H t = some (.dK kvs)) (h : Sq b K H a xs) : Sq b K H' a xs := by
  obtain ⟨kvs, ht⟩ := ht
  cases b with
  | true =>
    have h : SqL K H a xs := h
    rcases h with (h | ⟨o, h⟩) | h
    · exact .inl (.inl (f _ _ (fun e => by rw [e, ht] at h; cases h) h))
    · exact .inl (.inr ⟨o, f _ _ (fun e => by rw [e, ht] at h; cases h) h⟩)
    · exact .inr h
  | false =>
    have h : SqT K H a xs := h
    rcases h with (h | ⟨o, h⟩) | h
    · exact .inl (.inl (f _ _ (fun e => by rw [e, ht] at h; cases h) h))
    · exact .inl (.inr ⟨o, f _ _ (fun e => by rw [e, ht] at h; cases h) h⟩)
    · exact .inr h
/-- the tape: its cells, place, great number, how many left, seed, turn -/
def tapeF (l : Addr) (at_ gr le se tu : Int) : List (Key × V) := [(.inr "cells", .ref l), (.inr "at", .int at_), (.inr "great", .int gr), (.inr "left", .int le), (.inr "seed", .int se), (.inr "turn", .int tu)]
def IsTape (H : Hp) (t l : Addr) : Prop := ∃ (cs : List Int) (at_ gr le se tu : Int), H t = some (.dK (tapeF l at_ gr le se tu)) ∧ H l = some (.lst (cs.map V.int)) ∧ 0 ≤ at_
theorem IsTape.same {H H' : Hp} {t l : Addr} (s : Same H H') (h : IsTape H t l) : IsTape H' t l := by
  obtain ⟨cs, a, b, c, d, e, h1, h2, h3⟩ := h
  exact ⟨cs, a, b, c, d, e, s _ _ h1, s _ _ h2, h3⟩
theorem IsTape.upd {H : Hp} {t l D : Addr} {o : HO} (h1 : D ≠ t) (h2 : D ≠ l) (h : IsTape H t l) : IsTape (upd H D o) t l := by
  obtain ⟨cs, a, b, c, d, e, g1, g2, g3⟩ := h
  exact ⟨cs, a, b, c, d, e, (upd_ne (Ne.symm h1)).trans g1, (upd_ne (Ne.symm h2)).trans g2, g3⟩
theorem val_neg {j k : Key} {u : V} {kvs : List (Key × V)} (h : ¬ j = k) : valV ((j, u) :: kvs) k = valV kvs k := valV_neg h
theorem val_pos {k : Key} {u : V} {kvs : List (Key × V)} : valV ((k, u) :: kvs) k = some u := valV_pos rfl
theorem tape_cells {l : Addr} {at_ gr le se tu : Int} : valV (tapeF l at_ gr le se tu) (.inr "cells") = some (.ref l) := val_pos
theorem tape_at {l : Addr} {at_ gr le se tu : Int} : valV (tapeF l at_ gr le se tu) (.inr "at") = some (.int at_) := (val_neg (by decide +kernel)).trans val_pos
theorem tape_great {l : Addr} {at_ gr le se tu : Int} : valV (tapeF l at_ gr le se tu) (.inr "great") = some (.int gr) := (val_neg (by decide +kernel)).trans ((val_neg (by decide +kernel)).trans val_pos)
theorem tape_left {l : Addr} {at_ gr le se tu : Int} : valV (tapeF l at_ gr le se tu) (.inr "left") = some (.int le) := (val_neg (by decide +kernel)).trans ((val_neg (by decide +kernel)).trans ((val_neg (by decide +kernel)).trans val_pos))
theorem tape_seed {l : Addr} {at_ gr le se tu : Int} : valV (tapeF l at_ gr le se tu) (.inr "seed") = some (.int se) := (val_neg (by decide +kernel)).trans ((val_neg (by decide +kernel)).trans ((val_neg (by decide +kernel)).trans ((val_neg (by decide +kernel)).trans val_pos)))
theorem tape_turn {l : Addr} {at_ gr le se tu : Int} : valV (tapeF l at_ gr le se tu) (.inr "turn") = some (.int tu) := (val_neg (by decide +kernel)).trans ((val_neg (by decide +kernel)).trans ((val_neg (by decide +kernel)).trans ((val_neg (by decide +kernel)).trans ((val_neg (by decide +kernel)).trans val_pos))))
/-- a store at a key that is there -/
def replK (kvs : List (Key × V)) (k : Key) (v : V) : List (Key × V) := kvs.map fun kv => if kv.1 = k then (kv.1, v) else kv
theorem putK_repl {kvs : List (Key × V)} {k : Key} {v u : V} (h : valV kvs k = some u) : putK kvs k v = replK kvs k v := by
  unfold putK
  rw [valV_any, h]
  rfl
theorem repl_pos {kvs : List (Key × V)} {k : Key} {v u : V} : replK ((k, u) :: kvs) k v = (k, v) :: replK kvs k v := by
  show (if k = k then _ else _) :: _ = _
  rw [if_pos rfl]; rfl
theorem repl_neg {kvs : List (Key × V)} {k j : Key} {v u : V} (h : ¬ j = k) : replK ((j, u) :: kvs) k v = (j, u) :: replK kvs k v := by
  show (if j = k then _ else _) :: _ = _
  rw [if_neg h]; rfl
theorem tape_setAt {l : Addr} {at_ gr le se tu z : Int} : putK (tapeF l at_ gr le se tu) (.inr "at") (.int z) = tapeF l z gr le se tu := by
  rw [putK_repl tape_at]; unfold tapeF
  rw [repl_neg (by decide +kernel), repl_pos, repl_neg (by decide +kernel), repl_neg (by decide +kernel), repl_neg (by decide +kernel), repl_neg (by decide +kernel)]; rfl
theorem tape_setGreat {l : Addr} {at_ gr le se tu z : Int} : putK (tapeF l at_ gr le se tu) (.inr "great") (.int z) = tapeF l at_ z le se tu := by
  rw [putK_repl tape_great]; unfold tapeF
  rw [repl_neg (by decide +kernel), repl_neg (by decide +kernel), repl_pos, repl_neg (by decide +kernel), repl_neg (by decide +kernel), repl_neg (by decide +kernel)]; rfl
theorem tape_setLeft {l : Addr} {at_ gr le se tu z : Int} : putK (tapeF l at_ gr le se tu) (.inr "left") (.int z) = tapeF l at_ gr z se tu := by
  rw [putK_repl tape_left]; unfold tapeF
  rw [repl_neg (by decide +kernel), repl_neg (by decide +kernel), repl_neg (by decide +kernel), repl_pos, repl_neg (by decide +kernel), repl_neg (by decide +kernel)]; rfl
theorem tape_setSeed {l : Addr} {at_ gr le se tu z : Int} : putK (tapeF l at_ gr le se tu) (.inr "seed") (.int z) = tapeF l at_ gr le z tu := by
  rw [putK_repl tape_seed]; unfold tapeF
  rw [repl_neg (by decide +kernel), repl_neg (by decide +kernel), repl_neg (by decide +kernel), repl_neg (by decide +kernel), repl_pos, repl_neg (by decide +kernel)]; rfl
theorem tape_setTurn {l : Addr} {at_ gr le se tu z : Int} : putK (tapeF l at_ gr le se tu) (.inr "turn") (.int z) = tapeF l at_ gr le se z := by
  rw [putK_repl tape_turn]; unfold tapeF
  rw [repl_neg (by decide +kernel), repl_neg (by decide +kernel), repl_neg (by decide +kernel), repl_neg (by decide +kernel), repl_neg (by decide +kernel), repl_pos]; rfl
theorem tape_len {l : Addr} {at_ gr le se tu : Int} : (tapeF l at_ gr le se tu).length < 1000 := by show 6 < 1000; omega
end L2

namespace L2
open PySem PySem.Spec PyProof.Rows
/-! ### o[i] += e in lists; comprehensions with any state, with or without a test -/
def rGetL : V → V → Hp → VK → Prop := fun o i H Q => ∃ p xs k x, o = .ref p ∧ i = .int k ∧ 0 ≤ k ∧ H p = some (.lst xs) ∧ xs[k.toNat]? = some x ∧ Q x H
theorem get_list {X : Cx} : PGet X rGetL := by
  intro pins s σ H o i ov iv Q I ro ri h
  obtain ⟨p, xs, k, x, rfl, rfl, h0, hp, hx, q⟩ := h
  cases ro
  obtain ⟨t, rfl⟩ := ri
  obtain ⟨its, r, pl, hz⟩ := I.list (SqL.of hp)
  obtain ⟨w, ew, rw'⟩ := r.get hx
  have h1 := (List.getElem?_eq_some_iff.mp hx).1
  rw [sizeLine_eq] at hz
  exact wpAny_getItem_list pl.isList h0 (by omega) (by simpa using ew) ⟨x, H, I, rw', q⟩
section
variable {K : PySem.W.Frag} {σ : St} {H : Hp} {tt : TT} {te : TE} {g : TG} {vs : List Nat} {Q : VK}
theorem w_augS {to ti te : TE} {tget : V → V → Hp → VK → Prop} {tip : TIp} {tset : TSet} {nx b' c' : St → Hp → Prop} {rt : VK} (q : to σ H fun o H1 => ti σ H1 fun i H2 => tget o i H2 fun x H3 => te σ H3 fun y H4 => tip x y H4 fun z H5 => tset o i z H5 fun H6 => nx σ H6) : tAugS to ti te tget tip tset ⟨nx, rt, b', c'⟩ σ H := q
theorem w_prop {C : Addr} {sp : Sp} {dvs : List V} {E : XK} {ta : TE} (q : ta σ H fun x H1 => ∃ a dx fs, x = .ref a ∧ H1 a = some (.ins C dx fs) ∧ sp (.ref a :: dvs) H1 Q E) : tProp C sp dvs E ta σ H Q := q
theorem w_propAt {p C dx : Addr} {fs : List (Str × V)} {F : Addr → Prop} (h : H p = some (.ins C dx fs)) (q : F p) : ∃ a dx fs, V.ref p = .ref a ∧ H a = some (.ins C dx fs) ∧ F a := ⟨p, dx, fs, rfl, h, q⟩
theorem w_lstRg {t : L2.St → Hp → (Int → Int → Hp → Prop) → Prop} (q : t σ H fun a b H1 => RgOk a b ∧ ∀ q, H1 q = none → Q (.ref q) (upd H1 q (.lst (rgV a b)))) : tLstRg t σ H Q := q
theorem w_tupRg {t : L2.St → Hp → (Int → Int → Hp → Prop) → Prop} (q : t σ H fun a b H1 => RgOk a b ∧ ∀ q, H1 q = none → Q (.ref q) (upd H1 q (.tup (rgV a b)))) : tTupRg t σ H Q := q
theorem w_rg1 {ta : TE} {QR : Int → Int → Hp → Prop} (q : ta σ H fun x H1 => ∃ n, x = .int n ∧ QR 0 n H1) : tRg1 ta σ H QR := q
theorem w_rg2 {ta tb : TE} {QR : Int → Int → Hp → Prop} (q : ta σ H fun x H1 => tb σ H1 fun y H2 => ∃ i j, x = .int i ∧ y = .int j ∧ QR i j H2) : tRg2 ta tb σ H QR := q
theorem w_getI {p : Addr} {ns : List Int} {k : Int} (h : H p = some (.lst (ns.map V.int))) (h0 : 0 ≤ k) (h1 : k < ns.length) (q : Q (.int (nth ns k)) H) : rGetL (.ref p) (.int k) H Q := by
  refine ⟨p, _, k, .int (nth ns k), rfl, rfl, h0, h, ?_, q⟩
  have e : k = ((k.toNat : Nat) : Int) := (Int.toNat_of_nonneg h0).symm
  rw [vec_get (ns := ns) (i := k.toNat) (by omega), ← e]
theorem l_compG {J : It} {n : Nat} {G : Hp → Prop} {Y : Nat → Hp → V → Hp → Prop} (w : Walk J n G Y) (hz : n < sizeLine) (Sv : Addr → Nat → List V → Hp → Prop) (h0 : ∀ D, H D = none → Sv D 0 [] (upd H D (.lst []))) (hG : ∀ D i acc H', Sv D i acc H' → G H')
    (hs : ∀ i x H1 H2 D acc (NT : VK) (NF : Hp → Prop), i < n → H D = none → Sv D i acc H1 → H1 D = some (.lst acc) → acc.length ≤ i → Y i H1 x H2 → (∀ y H5, H5 D = some (.lst acc) → Sv D (i + 1) (acc ++ [y]) (upd H5 D (.lst (acc ++ [y]))) → NT y H5) →
      (∀ H4, H4 D = some (.lst acc) → Sv D (i + 1) acc H4 → NF H4) → g x (wipe σ vs) H2 fun σ2 H3 => wipe σ2 vs = wipe σ vs ∧ tt σ2 H3 fun b H4 => if b = true then te σ2 H4 NT else NF H4)
    (k : ∀ D H' ys, H D = none → Sv D n ys H' → H' D = some (.lst ys) → ys.length ≤ n → Q (.ref D) H') : CompOk J g tt te vs σ H Q := by
  intro D hD
  refine lc_it w (fun i H' => ∃ acc, H' D = some (.lst acc) ∧ acc.length ≤ i ∧ Sv D i acc H') ⟨[], upd_same, Nat.le_refl _, h0 D hD⟩ (fun i H' _ ⟨acc, _, _, h⟩ => hG D i acc H' h) ?_ ?_
  · rintro i x H1 H2 hi ⟨acc, e, hl, st⟩ hy
    exact hs i x H1 H2 D acc _ _ hi hD st e hl hy (fun y H5 e5 s5 => ⟨acc, e5, Nat.lt_of_le_of_lt hl (Nat.lt_trans hi hz), acc ++ [y], upd_same, by rw [List.length_append, List.length_singleton]; omega, s5⟩) (fun H4 e4 s4 => ⟨acc, e4, by omega, s4⟩)
  · rintro H' ⟨acc, e, hl, st⟩
    exact k D H' acc hD st e hl
/-- for .. in range(n), of any state -/
theorem l_compGR {n : Int} {j : Nat} (h1 : -(2 ^ 62) ≤ n) (h2 : n < 16000000) (Sv : Addr → Nat → List V → Hp → Prop) (hw : ∀ x : V, wipe ((wipe σ vs).set j (some x)) vs = wipe σ vs) (h0 : ∀ D, H D = none → Sv D 0 [] (upd H D (.lst [])))
    (hs : ∀ (i : Nat) H1 D acc (NT : VK) (NF : Hp → Prop), (i : Int) < n → H D = none → Sv D i acc H1 → H1 D = some (.lst acc) → acc.length ≤ i → (∀ y H5, H5 D = some (.lst acc) → Sv D (i + 1) (acc ++ [y]) (upd H5 D (.lst (acc ++ [y]))) → NT y H5) →
      (∀ H4, H4 D = some (.lst acc) → Sv D (i + 1) acc H4 → NF H4) → tt ((wipe σ vs).set j (some (.int (i : Int)))) H1 fun b H4 => if b = true then te ((wipe σ vs).set j (some (.int (i : Int)))) H4 NT else NF H4)
    (k : ∀ D H' ys, H D = none → Sv D n.toNat ys H' → H' D = some (.lst ys) → ys.length ≤ n.toNat → Q (.ref D) H') :
    ∃ j' : Int, [V.int n] = [.int j'] ∧ -(2 ^ 62) ≤ j' ∧ j' < 2 ^ 62 ∧ CompOk (Itr 0 j'.toNat) (gName j) tt te vs σ H Q := by
  refine ⟨n, rfl, h1, by omega, l_compG (walk_range (lo := 0) (n := n.toNat)) (by rw [sizeLine_eq]; omega) Sv h0 (fun _ _ _ _ _ => trivial) (fun i x H1 H2 D acc NT NF hi hD st e1 hl hy hT hF => ?_) k⟩
  obtain ⟨e, ex⟩ := hy
  subst e ex
  show wipe ((wipe σ vs).set j (some (.int (0 + (i : Int))))) vs = wipe σ vs ∧ tt ((wipe σ vs).set j (some (.int (0 + (i : Int))))) _ fun b H4 => if b = true then te ((wipe σ vs).set j (some (.int (0 + (i : Int))))) H4 NT else NF H4
  rw [Int.zero_add]
  exact ⟨hw _, hs i _ D acc NT NF (by omega) hD st e1 hl hT hF⟩
/-- for .. in a list or a tuple, of any state -/
theorem l_compGS {b : Bool} {a : Addr} {j : Nat} (xs : List V) (hz : xs.length < sizeLine) (Sv : Addr → Nat → List V → Hp → Prop) (hx : Sq b K H a xs) (hw : ∀ x : V, wipe ((wipe σ vs).set j (some x)) vs = wipe σ vs) (h0 : ∀ D, H D = none → Sv D 0 [] (upd H D (.lst []))) (hG : ∀ D i acc H', Sv D i acc H' → Sq b K H' a xs)
    (hs : ∀ (i : Nat) x H1 D acc (NT : VK) (NF : Hp → Prop), i < xs.length → xs[i]? = some x → H D = none → Sv D i acc H1 → H1 D = some (.lst acc) → acc.length ≤ i → (∀ y H5, H5 D = some (.lst acc) → Sv D (i + 1) (acc ++ [y]) (upd H5 D (.lst (acc ++ [y]))) → NT y H5) →
      (∀ H4, H4 D = some (.lst acc) → Sv D (i + 1) acc H4 → NF H4) → tt ((wipe σ vs).set j (some x)) H1 fun b H4 => if b = true then te ((wipe σ vs).set j (some x)) H4 NT else NF H4)
    (k : ∀ D H' ys, H D = none → Sv D xs.length ys H' → H' D = some (.lst ys) → ys.length ≤ xs.length → Q (.ref D) H') :
    ∃ a', V.ref a = .ref a' ∧ ((∃ xs, SqL K H a' xs) ∧ CompOk (Itl K a') (gName j) tt te vs σ H Q ∨ (∃ xs, SqT K H a' xs) ∧ CompOk (Itt K a') (gName j) tt te vs σ H Q) := by
  refine ⟨a, rfl, ?_⟩
  cases b with
  | true =>
    refine .inl ⟨⟨xs, hx⟩, l_compG (walk_list (xs := xs)) hz Sv h0 hG (fun i x H1 H2 D acc NT NF hi hD st e1 hl hy hT hF => ?_) k⟩
    obtain ⟨e, ex⟩ := hy
    subst e
    exact ⟨hw _, hs i x _ D acc NT NF hi ex hD st e1 hl hT hF⟩
  | false =>
    refine .inr ⟨⟨xs, hx⟩, l_compG (walk_tup (xs := xs)) hz Sv h0 hG (fun i x H1 H2 D acc NT NF hi hD st e1 hl hy hT hF => ?_) k⟩
    obtain ⟨e, ex⟩ := hy
    subst e
    exact ⟨hw _, hs i x _ D acc NT NF hi ex hD st e1 hl hT hF⟩
end
end L2

namespace PySem.W
open PySem PySem.Calls PyProof.Rows Builtin
/-! ### == and != of instances whose class has its own __eq__ -/
section
variable {prog : Program} {w : World} {A : Around} {E : Value → Shared → Prop} {s : Shared} {K : Frag} {x C L f : Addr} {h₀ : Heap} {m : Str → Option Value} {ox : Obj} {od : Option Obj} {name : Str} {b tb : Value}
theorem ifBound_B {M : Model} {args : List Value} {id : String} {Q : Option Value → Shared → Prop} (X : K.In s.heap) (I : InstAt s.heap x ox C od) (hs : findIn K (.ref C) name = some (some (.builtin id)))
    (hb : ∀ self, bindSpecial (.builtin id) self = pure (.builtin id, [self])) (h : wpAny M A (call (.builtin id) (.ref x :: args)) (fun v => Q (some v)) E s) : wpAny M A (callSpecialIfBound? (.ref x) name args) Q E s := by
  simp only [callSpecialIfBound?, bindSpecialIfBound?]
  refine wpAny_holding (wpAny_bind (wpAny_bind (wpAny_bind (I.type.here ((looks_findIn X hs).here ?_)))))
  refine wpAny_bind (wpAny_askSetting (wpAny_ite ?_))
  have fin : wpAny M A (call (.builtin id) ([.ref x] ++ args) >>= fun v => pure (some v)) Q E s := wpAny_bind (wpAny_mono h (fun v s' h' => wpAny_pure h') fun _ _ h' => h')
  split
  · exact wpAny_bind ((Looks.of_pure (hb _)).here (wpAny_pure (by exact fin)))
  · exact wpAny_tryCatch (wpAny_bind ((Looks.of_pure (hb _)).here (wpAny_pure (by exact fin))))
theorem obj_ne {Q : Value → Shared → Prop} (hu : A.in1.units < cLine) (X : K.In s.heap) (I : InstAt s.heap x ox C od) (hm : mroIn K C (.type "object") = some true) (hs : findIn K (.ref C) "__eq__" = some (some (.ref f))) (hf : isFn K (.ref f) = true)
    (h : wpAny (model prog w) A.in1 (call (.ref f) [.ref x, b]) (fun v s' => ∃ c, v = .bool c ∧ Q (.bool (!c)) s') E s) : wpAny (model prog w) A (call (.builtin "object.__ne__") [.ref x, b]) Q E s := by
  refine wpAny_call (codeAny_call_builtin PySem.F.cmp_object.ne.plain PySem.F.cmpEntry_ne (check_slot PySem.F.cmpKind_ne PySem.F.cmpSplit_ne (I.type.andThen (looks_mroIn X hm)) (PySem.F.cmpArgs_ne _ _) ?_))
  unfold Builtin.«object.__ne__»
  refine wpAny_bind (m := slotArgs "__ne__" 1 _) (wpAny_pure ?_)
  refine wpAny_bind (m := cRoomFor _ _) (wpAny_cRoomFor hu ?_)
  refine wpAny_bind (m := callSpecialIfBound? (.ref x) (Str.ofString "__eq__") _) (ifBound_K X I hs hf (wpAny_mono h (fun r s' hq => ?_) fun _ _ y => y))
  obtain ⟨c, rfl, q⟩ := hq
  refine wpAny_bind (m := truthy (.bool _)) (wpAny_truthy_bool ?_)
  exact wpAny_pure q
theorem ne_own {Q : Value → Shared → Prop} (hu : A.units + 1 < cLine) (F : Fr h₀ L s.heap m) (X₀ : K.In h₀) (I : InstAt s.heap x ox C od) (hb : Looks (model prog w) s.heap (typeOf b) tb) (hn : notFirst K C tb = true)
    (hne : findIn K (.ref C) "__ne__" = some (some (.builtin "object.__ne__"))) (hm : mroIn K C (.type "object") = some true) (hs : findIn K (.ref C) "__eq__" = some (some (.ref f))) (hf : isFn K (.ref f) = true)
    (h : wpAny (model prog w) A.in1 (call (.ref f) [.ref x, b]) (fun v s' => ∃ c, v = .bool c ∧ Q (.bool (!c)) s') E s) : wpAny (model prog w) A (richCompare .NotEq (.ref x) b) Q E s := by
  have X := X₀.keeps F.keep
  have one : wpAny (model prog w) A (tryCompare (.ref x) (cmpInfo .NotEq).2.1 b) (fun r s' => ∃ v, r = some v ∧ Q v s') E s := by
    unfold tryCompare
    refine wpAny_bind (ifBound_B X I hne PySem.F.cmp_object.ne.bind (obj_ne (by show A.units + 1 < _; exact hu) X I hm hs hf (wpAny_mono h (fun v s' hv => ?_) fun _ _ e => e)))
    obtain ⟨c, rfl, q⟩ := hv
    exact ⟨c, rfl, wpAny_pure ⟨_, rfl, q⟩⟩
  unfold richCompare
  simp only [oneThing_ref]
  refine wpAny_holding (wpAny_bind (wpAny_cRoomFor (Nat.lt_of_succ_lt hu) ?_))
  refine wpAny_bind (I.type.here (wpAny_bind (hb.here ?_)))
  split
  · rename_i q
    have e : subIn K tb (.ref C) = some false := by
      rcases Bool.or_eq_true_iff.mp hn with e | e
      · rw [beq_iff_eq.mp e] at q; simp at q
      · exact beq_iff_eq.mp e
    refine wpAny_bind ((looks_subIn X e).here ?_)
    simp only [Bool.false_eq_true, if_false]
    refine wpAny_bind (wpAny_mono one (fun r s' z => ?_) fun _ _ e => e)
    obtain ⟨v, rfl, hq⟩ := z
    exact wpAny_pure hq
  · refine wpAny_bind (wpAny_pure ?_)
    simp only [Bool.false_eq_true, if_false]
    refine wpAny_bind (wpAny_mono one (fun r s' z => ?_) fun _ _ e => e)
    obtain ⟨v, rfl, hq⟩ := z
    exact wpAny_pure hq
end
end PySem.W
namespace L2
open PySem PySem.Spec PyProof.Rows
/-- what a class with its own == says of itself -/
structure EqOf (K : PySem.W.Frag) (C f : Addr) : Prop where
  eq : PySem.W.findIn K (.ref C) "__eq__" = some (some (.ref f))
  fn : PySem.W.isFn K (.ref f) = true
  ne : PySem.W.findIn K (.ref C) "__ne__" = some (some (.builtin "object.__ne__"))
  mro : PySem.W.mroIn K C (.type "object") = some true
/-- x == y, x an instance of the class at C: what its __eq__ (promise sp) answers, a bool -/
def rEqO (K : PySem.W.Frag) (C : Addr) (sp : Sp) : R2 := fun x y H Q => ∃ a dx fs t, x = .ref a ∧ H a = some (.ins C dx fs) ∧ TyX K H y t ∧ PySem.W.notFirst K C t = true ∧ sp [x, y] H (fun v H' => ∃ c, v = .bl c ∧ Q (.bl c) H') (fun _ _ _ => False)
def rNeO (K : PySem.W.Frag) (C : Addr) (sp : Sp) : R2 := fun x y H Q => ∃ a dx fs t, x = .ref a ∧ H a = some (.ins C dx fs) ∧ TyX K H y t ∧ PySem.W.notFirst K C t = true ∧ sp [x, y] H (fun v H' => ∃ c, v = .bl c ∧ Q (.bl (!c)) H') (fun _ _ _ => False)
section
variable {X : Cx} {CX : CXT} {C f : Addr} {fd : FuncData} {ps : List Str} {sp : Sp} {n : Nat}
theorem own_run {A : Around} {pins : List (Addr × Obj)} {σ : St} {H : Hp} {s : Shared} {Q : VK} {a : Addr} {y : V} {u : Value} (F : FnOk X.prog X.w X.K X.mg X.base CX n f fd ps sp) (hr : Room n A) (hfr : A.frames = X.A.frames) (hb : Binds X.K fd ps []) (hx : Passes CX X (fun _ _ _ => False))
    (I : Inv X pins σ H s) (ry : RelV y u) (h : sp [.ref a, y] H Q (fun _ _ _ => False)) : wpAny (model X.prog X.w) A (call (.ref f) [.ref a, u]) (EP X pins σ Q) X.xe s := by
  have e0 : Env0 X.prog X.w X.K X.mg X.base A X.stack s H := by
    have e := I.env0
    exact ⟨by rw [hfr]; exact e.frames, e.mod, e.bs, e.bsz, e.funs, e.frf, e.hok, e.bare⟩
  have hl := F.len _ _ _ _ h
  have r2 : Vals [V.ref a, y] [Value.ref a, u] := .cons rfl (.cons ry .nil)
  refine wpAny_call (codeAny_mono (F.run A X.stack s H ⟨[.ref a, u], []⟩ [.ref a, u] [.ref a, y] _ _ hr e0 (by
    have := hb s [.ref a, u] I.kIn (by simpa using hl)
    simpa using this) r2 h) fun r s' hq => ?_)
  cases r with
  | error e => exact hx pins σ H s e s' I hq
  | ok fl =>
    cases fl with
    | ret w => exact I.after hq
    | next => exact False.elim hq
    | brk => exact False.elim hq
    | cont => exact False.elim hq
theorem op_eqO (e : EqOf X.K C f) (F : FnOk X.prog X.w X.K X.mg X.base CX n f fd ps sp) (hr : Room n X.A) (hb : Binds X.K fd ps []) (hx : Passes CX X (fun _ _ _ => False)) : OpR X (compareOp .Eq) (rEqO X.K C sp) := by
  intro pins s σ H x y v u Q I rx ry hq
  obtain ⟨a, dx, fs, t, rfl, ha, ty, hn, h⟩ := hq
  obtain rfl : v = Value.ref a := rx
  obtain ⟨mA, J, _⟩ := ins_get I.hok ha
  obtain ⟨od, J, _⟩ := J.look
  obtain ⟨m, hF⟩ := I.fr
  obtain ⟨P, Z, p, _⟩ := kit_of I ry ty
  show wpAny (model X.prog X.w) X.A (richCompare .Eq (.ref a) u) (EP X pins σ Q) X.xe s
  have hu : X.A.units < cLine := by have := hr.un; omega
  refine PySem.W.cmp_K (op := .Eq) hu hF I.ok.mod.kin J (Z.ty _ _ I.kIn p) hn e.eq e.fn ?_
  refine wpAny_mono (own_run F hr rfl hb hx I ry h) (fun r s' z => ?_) fun _ _ z => z
  obtain ⟨z, H', I', rz, c, ez, q⟩ := z
  subst ez
  cases rz
  exact ⟨.bl c, H', I', rfl, q⟩
theorem op_neO (e : EqOf X.K C f) (F : FnOk X.prog X.w X.K X.mg X.base CX n f fd ps sp) (hr : Room (n + 1) X.A) (hb : Binds X.K fd ps []) (hx : Passes CX X (fun _ _ _ => False)) : OpR X (compareOp .NotEq) (rNeO X.K C sp) := by
  intro pins s σ H x y v u Q I rx ry hq
  obtain ⟨a, dx, fs, t, rfl, ha, ty, hn, h⟩ := hq
  obtain rfl : v = Value.ref a := rx
  obtain ⟨mA, J, _⟩ := ins_get I.hok ha
  obtain ⟨od, J, _⟩ := J.look
  obtain ⟨m, hF⟩ := I.fr
  obtain ⟨P, Z, p, _⟩ := kit_of I ry ty
  show wpAny (model X.prog X.w) X.A (richCompare .NotEq (.ref a) u) (EP X pins σ Q) X.xe s
  have hu : X.A.units + 1 < cLine := by have := hr.un; omega
  refine PySem.W.ne_own hu hF I.ok.mod.kin J (Z.ty _ _ I.kIn p) hn e.ne e.mro e.eq e.fn ?_
  refine wpAny_mono (own_run (A := X.A.in1) F hr.in1 rfl hb hx I ry h) (fun r s' z => ?_) fun _ _ z => z
  obtain ⟨z, H', I', rz, c, ez, q⟩ := z
  subst ez
  cases rz
  exact ⟨c, rfl, .bl (!c), H', I', rfl, q⟩
end
end L2
namespace L2
open PySem PySem.Spec PyProof.Rows
/-- what isinstance asks of an own class, and of tuples, numbers and texts beside it -/
structure OwnC (K : PySem.W.Frag) (C : Addr) : Prop where
  cls : PySem.W.findIn K (.ref C) "__class__" = some (some (.builtin "object.__class__"))
  get : PySem.W.specialIn K (.builtin "object.__class__") "__get__" = some (some (.builtin "getset_descriptor.__get__"))
  tak : PySem.W.takesIn K (.builtin "object.__class__") = some true
  mro : PySem.W.mroIn K C (.type "object") = some true
  isc : PySem.W.isClsIn K C = true
  typ : PySem.W.typeIn K (.ref C) = some (.type "type")
  sT : PySem.W.subIn K (.type "tuple") (.ref C) = some false
  sI : PySem.W.subIn K (.type "int") (.ref C) = some false
  sS : PySem.W.subIn K (.type "str") (.ref C) = some false
section
variable {K : PySem.W.Frag} {C : Addr} {H : Hp} {Q : VK} {x : V}
theorem OwnC.tyx (o : OwnC K C) (cl : Cls K C) {a dx : Addr} {fs : List (Str × V)} (h : H a = some (.ins C dx fs)) : TyX K H (.ref a) (.ref C) := .base (.ins h cl o.cls o.get o.tak o.mro)
theorem kit_self : PySem.W.kitOne K (.ref C) (.ref C) = some true := if_pos (beq_self_eq_true _)
theorem kit_no {n : String} (h1 : PySem.W.isClsIn K C = true) (h2 : PySem.W.typeIn K (.ref C) = some (.type "type")) (h : PySem.W.subIn K (.type n) (.ref C) = some false) : PySem.W.kitOne K (.type n) (.ref C) = some false := by
  have h1' : (PySem.W.clsIn K C).isSome = true := h1
  unfold PySem.W.kitOne
  rw [if_neg (by intro e; cases (beq_iff_eq.mp e))]
  show (if ((PySem.W.clsIn K C).isSome && PySem.W.typeIn K (.ref C) == some (.type "type")) = true then PySem.W.subIn K (.type n) (.ref C) else none) = some false
  rw [if_pos (by rw [h1', h2]; rfl)]
  exact h
theorem first_self : PySem.W.notFirst K C (.ref C) = true := by simp [PySem.W.notFirst]
theorem first_no {n : String} (h : PySem.W.subIn K (.type n) (.ref C) = some false) : PySem.W.notFirst K C (.type n) = true := by
  unfold PySem.W.notFirst
  rw [h]
  simp
theorem w_isOwn (o : OwnC K C) (cl : Cls K C) {a dx : Addr} {fs : List (Str × V)} (h : H a = some (.ins C dx fs)) (q : Q (.bl true) H) : rIsi K [.ref a, .ref C] H Q := ⟨_, _, _, _, _, rfl, .own C, o.tyx cl h, kit_self, q⟩
theorem w_isNot (o : OwnC K C) {n : String} (ht : TyX K H x (.type n)) (hs : PySem.W.subIn K (.type n) (.ref C) = some false) (q : Q (.bl false) H) : rIsi K [x, .ref C] H Q := ⟨_, _, _, _, _, rfl, .own C, ht, kit_no o.isc o.typ hs, q⟩
theorem w_rep {l : Addr} {xs : List V} {k : Int} (h : H l = some (.lst xs)) (h0 : 0 ≤ k) (h1 : k ≤ 1000) (hz : xs.length ≤ 1000) (q : ∀ p, H p = none → Q (.ref p) (upd H p (.lst (List.replicate k.toNat xs).flatten))) : rRep (.ref l) (.int k) H Q :=
  ⟨l, k, xs, rfl, rfl, h, by omega, by omega, by
    rw [sizeLine_eq]
    have : xs.length * k.toNat ≤ 1000 * 1000 := Nat.mul_le_mul hz (by omega)
    omega, q⟩
end
/-! ### rows of any values; rows of new lists -/
def RRw (b : Bool) (K : PySem.W.Frag) : Rep (List V) := fun H v xs => ∃ a, v = .ref a ∧ Sq b K H a xs
theorem RRw.mono {b : Bool} {K : PySem.W.Frag} : RMono (RRw b K) := fun _ _ _ _ s ⟨a, e, h⟩ => ⟨a, e, s.sq h⟩
theorem RRw.tup {K : PySem.W.Frag} : RTup (RRw false K) := fun _ _ _ _ hD ⟨a, e, h⟩ => ⟨a, e, sq_hide hD h⟩
/-- D a list of new lists: their addresses, none twice, none there before -/
def FRows (H0 H : Hp) (D : Addr) (rows : List (List V)) : Prop := ∃ ps : List Addr, H D = some (.lst (ps.map V.ref)) ∧ ps.length = rows.length ∧ ps.Nodup ∧ (∀ p ∈ ps, H0 p = none) ∧ H0 D = none ∧ D ∉ ps ∧ ∀ (i : Nat) p r, ps[i]? = some p → rows[i]? = some r → H p = some (.lst r)
section
variable {K : PySem.W.Frag} {H0 H H' : Hp} {D : Addr} {rows : List (List V)}
theorem FRows.mono (s : Same H H') (f : FRows H0 H D rows) : FRows H0 H' D rows := by
  obtain ⟨ps, h1, h2, h3, h4, h5, h6, h7⟩ := f
  exact ⟨ps, s _ _ h1, h2, h3, h4, h5, h6, fun i p r a b => s _ _ (h7 i p r a b)⟩
theorem FRows.seq (f : FRows H0 H D rows) : RSeq true K (RRw true K) H (.ref D) rows := by
  obtain ⟨ps, h1, h2, h3, h4, h5, h6, h7⟩ := f
  refine ⟨D, _, rfl, Sq.lst h1, by rw [List.length_map]; exact h2, fun i y x hy hx => ?_⟩
  rw [List.getElem?_map] at hy
  cases e : ps[i]? with
  | none => rw [e] at hy; cases hy
  | some p =>
    rw [e] at hy
    cases hy
    exact ⟨p, rfl, Sq.lst (h7 i p x e hx)⟩
/-- a store into one of the rows -/
theorem FRows.set {i : Nat} {r r' : List V} (f : FRows H0 H D rows) (hi : rows[i]? = some r) : ∃ p, (∃ ps : List Addr, H D = some (.lst (ps.map V.ref)) ∧ ps[i]? = some p) ∧ H p = some (.lst r) ∧ H0 p = none ∧ p ≠ D ∧ FRows H0 (upd H p (.lst r')) D (rows.set i r') := by
  obtain ⟨ps, h1, h2, h3, h4, h5, h6, h7⟩ := f
  have hlt := (List.getElem?_eq_some_iff.mp hi).1
  have hp : ps[i]? = some (ps[i]'(by omega)) := List.getElem?_eq_getElem (by omega)
  generalize ps[i]'(by omega) = p at hp
  have hm := List.mem_of_getElem? hp
  have hpD : p ≠ D := fun e => h6 (by rw [← e]; exact hm)
  refine ⟨p, ⟨ps, h1, hp⟩, h7 i p r hp hi, h4 p hm, hpD, ps, (upd_ne (Ne.symm hpD)).trans h1, by rw [List.length_set]; exact h2, h3, h4, h5, h6, fun j q x hq hx => ?_⟩
  rw [List.getElem?_set] at hx
  by_cases e : i = j
  · subst e
    rw [if_pos rfl, if_pos hlt] at hx
    rw [hp] at hq
    cases hq
    cases hx
    exact upd_same
  · rw [if_neg e] at hx
    have hqp : q ≠ p := fun z => e (by
      subst z
      have a := (List.getElem?_eq_some_iff.mp hp)
      have b := (List.getElem?_eq_some_iff.mp hq)
      exact (List.getElem_inj h3).mp (a.2.trans b.2.symm))
    rw [upd_ne hqp]
    exact h7 j q x hq hx
theorem map_ref_inj : ∀ {ps qs : List Addr}, ps.map V.ref = qs.map V.ref → ps = qs
  | [], [], _ => rfl
  | [], q :: qs, h => by cases h
  | p :: ps, [], h => by cases h
  | p :: ps, q :: qs, h => by
    rw [List.map_cons, List.map_cons] at h
    injection h with h1 h2
    injection h1 with h1
    rw [h1, map_ref_inj h2]
/-- a new list put behind the rows -/
theorem FRows.push {p : Addr} {r : List V} {ps : List Addr} (h1 : H D = some (.lst (ps.map V.ref))) (f : FRows H0 H D rows) (hp : H p = some (.lst r)) (h0 : H0 p = none) (hn : p ∉ ps) (hD : p ≠ D) : FRows H0 (upd H D (.lst (ps.map V.ref ++ [.ref p]))) D (rows ++ [r]) := by
  obtain ⟨ps', g1, h2, h3, h4, h5, h6, h7⟩ := f
  have e : ps' = ps := by
    rw [g1] at h1
    have h1 : ps'.map V.ref = ps.map V.ref := by
      have := Option.some.inj h1
      injection this
    exact map_ref_inj h1
  subst e
  refine ⟨ps' ++ [p], by rw [upd_same, List.map_append]; rfl, by rw [List.length_append, List.length_append, h2]; rfl, List.nodup_append.mpr ⟨h3, List.nodup_cons.mpr ⟨List.not_mem_nil, List.nodup_nil⟩, fun a ha b hb e => hn (by rw [List.mem_singleton.mp hb] at e; rw [← e]; exact ha)⟩,
    fun q hq => ?_, h5, fun hm => ?_, fun i q x hq hx => ?_⟩
  · rcases List.mem_append.mp hq with h | h
    · exact h4 q h
    · rw [List.mem_singleton.mp h]; exact h0
  · rcases List.mem_append.mp hm with h | h
    · exact h6 h
    · exact hD (List.mem_singleton.mp h).symm
  · have hq1 := (List.getElem?_eq_some_iff.mp hq).1
    rw [List.length_append] at hq1
    by_cases hlt : i < ps'.length
    · rw [List.getElem?_append_left hlt] at hq
      rw [List.getElem?_append_left (by omega)] at hx
      have hqD : q ≠ D := fun e => h6 (by rw [← e]; exact List.mem_of_getElem? hq)
      rw [upd_ne hqD]
      exact h7 i q x hq hx
    · have ei : i = ps'.length := by
        have : i < ps'.length + 1 := hq1
        omega
      subst ei
      rw [List.getElem?_append_right (Nat.le_refl _), Nat.sub_self] at hq
      rw [h2, List.getElem?_append_right (Nat.le_refl _), Nat.sub_self] at hx
      cases hq
      cases hx
      rw [upd_ne hD]
      exact hp
end
theorem line_of1 {n : Nat} (h : n ≤ 1000000) : n < sizeLine := by rw [sizeLine_eq]; omega
theorem w_tupAny {K : PySem.W.Frag} {H : Hp} {Q : VK} {b : Bool} {a : Addr} {ys : List V} (h : Sq b K H a ys) (q : ∀ p H', Same H H' → Sq false K H' p ys → Q (.ref p) H') : rTupS K [.ref a] H Q := by
  cases b with
  | true => exact w_tupL h fun p hp => q _ _ (Same.new hp) (Sq.tup upd_same)
  | false => exact w_tupT h (q _ _ (Same.refl _) h)
theorem w_catA {K : PySem.W.Frag} {H : Hp} {Q : VK} {a b : Addr} {xs ys : List V} (h1 : Sq false K H a xs) (h2 : Sq false K H b ys) (hz : xs.length + ys.length ≤ 1000000) (q : ∀ p H', Same H H' → Sq false K H' p (xs ++ ys) → Q (.ref p) H') : rCatA K (.ref a) (.ref b) H Q :=
  ⟨a, b, xs, ys, rfl, rfl, h1, h2, by rw [sizeLine_eq]; omega, fun e => q _ _ (Same.refl _) (by rw [e]; exact h2), fun _ e => q _ _ (Same.refl _) (by rw [e, List.append_nil]; exact h1), fun _ _ p hp => q _ _ (Same.new hp) (Sq.tup upd_same)⟩
theorem Fr.sqI {b : Bool} {K : PySem.W.Frag} {H H' : Hp} {t a : Addr} {xs : List V} (f : Fr t H H') (ht : ∃ C dx fs, H t = some (.ins C dx fs)) (h : Sq b K H a xs) : Sq b K H' a xs := by
  obtain ⟨C, dx, fs, ht⟩ := ht
  cases b with
  | true =>
    have h : SqL K H a xs := h
    rcases h with (h | ⟨o, h⟩) | h
    · exact .inl (.inl (f _ _ (fun e => by rw [e, ht] at h; cases h) h))
    · exact .inl (.inr ⟨o, f _ _ (fun e => by rw [e, ht] at h; cases h) h⟩)
    · exact .inr h
  | false =>
    have h : SqT K H a xs := h
    rcases h with (h | ⟨o, h⟩) | h
    · exact .inl (.inl (f _ _ (fun e => by rw [e, ht] at h; cases h) h))
    · exact .inl (.inr ⟨o, f _ _ (fun e => by rw [e, ht] at h; cases h) h⟩)
    · exact .inr h
/-- lists or tuples of lists or tuples of any values -/
def RRows (b1 b2 : Bool) (K : PySem.W.Frag) : Rep (List (List V)) := RSeq b1 K (RRw b2 K)
theorem RRows.mono {b1 b2 : Bool} {K : PySem.W.Frag} : RMono (RRows b1 b2 K) := RSeq.mono RRw.mono
theorem RRows.fr {b1 b2 : Bool} {K : PySem.W.Frag} {H H' : Hp} {t : Addr} {v : V} {rows : List (List V)} (f : Fr t H H') (ht : ∃ C dx fs, H t = some (.ins C dx fs)) (h : RRows b1 b2 K H v rows) : RRows b1 b2 K H' v rows := by
  obtain ⟨a, vs, e, h1, h2, h3⟩ := h
  exact ⟨a, vs, e, f.sqI ht h1, h2, fun i y x hy hx => by
    obtain ⟨p, e, hp⟩ := h3 i y x hy hx
    exact ⟨p, e, f.sqI ht hp⟩⟩
theorem RRows.get {b1 b2 : Bool} {K : PySem.W.Frag} {H : Hp} {v : V} {rows : List (List V)} {i : Nat} {r : List V} (h : RRows b1 b2 K H v rows) (hi : rows[i]? = some r) : ∃ a vs p, v = .ref a ∧ Sq b1 K H a vs ∧ vs.length = rows.length ∧ vs[i]? = some (.ref p) ∧ Sq b2 K H p r := by
  obtain ⟨a, vs, e, h1, h2, h3⟩ := h
  obtain ⟨y, hy, p, ep, hp⟩ := RSeq.get (R := RRw b2 K) h2 h3 hi
  subst ep
  exact ⟨a, vs, p, e, h1, h2, hy, hp⟩
theorem none_back {H H' : Hp} {p : Addr} (s : Same H H') (h : H' p = none) : H p = none := by
  cases e : H p with
  | none => rfl
  | some u => rw [s _ _ e] at h; cases h
section
variable {K : PySem.W.Frag} {σ : St} {H : Hp} {te : TE} {vs : List Nat} {Q : VK}
theorem FRows.nil {D : Addr} (hD : H D = none) : FRows H (upd H D (.lst [])) D [] := ⟨[], upd_same, rfl, List.nodup_nil, List.forall_mem_nil _, hD, List.not_mem_nil, fun i p r h => by simp at h⟩
theorem FRows.next {H0 H1 H2 : Hp} {D p : Addr} {rows : List (List V)} {r : List V} {acc : List V} (f : FRows H0 H1 D rows) (s0 : Same H0 H1) (e : H1 D = some (.lst acc)) (hp : H1 p = none) (s : Same H1 H2) (ep : H2 p = some (.lst r)) :
    H2 D = some (.lst acc) ∧ FRows H0 (upd H2 D (.lst (acc ++ [.ref p]))) D (rows ++ [r]) := by
  obtain ⟨ps, h1, h2, h3, h4, h5, h6, h7⟩ := id f
  have ea : acc = ps.map V.ref := by
    rw [h1] at e
    have e := Option.some.inj e
    injection e with e
    exact e.symm
  subst ea
  refine ⟨s _ _ e, (f.mono s).push (s _ _ h1) ep (none_back s0 hp) (fun hm => ?_) (fun e2 => by rw [e2, e] at hp; cases hp)⟩
  obtain ⟨q, hq1, hq2⟩ := List.mem_iff_getElem.mp hm
  have a1 : ps[q]? = some p := by rw [List.getElem?_eq_getElem hq1, hq2]
  have a3 := h7 q p _ a1 (List.getElem?_eq_getElem (by omega))
  rw [a3] at hp; cases hp
/-- a comprehension that gives new lists -/
theorem c_fresh {b : Bool} {a : Addr} {j : Nat} (rows : List (List V)) (xs : List V) (hx : Sq b K H a xs) (hl : rows.length = xs.length) (hz : xs.length < sizeLine) (hw : ∀ x : V, wipe ((wipe σ vs).set j (some x)) vs = wipe σ vs)
    (hs : ∀ (i : Nat) x r H1 (N : VK), i < xs.length → xs[i]? = some x → rows[i]? = some r → Same H H1 → (∀ p H2, H1 p = none → Same H1 H2 → H2 p = some (.lst r) → N (.ref p) H2) → te ((wipe σ vs).set j (some x)) H1 N)
    (k : ∀ D H', Same H H' → FRows H H' D rows → Q (.ref D) H') :
    ∃ a', V.ref a = .ref a' ∧ ((∃ xs, SqL K H a' xs) ∧ CompOk (Itl K a') (gName j) tYes te vs σ H Q ∨ (∃ xs, SqT K H a' xs) ∧ CompOk (Itt K a') (gName j) tYes te vs σ H Q) := by
  refine l_compGS (b := b) xs hz (fun D i acc H' => Same H H' ∧ FRows H H' D (rows.take i)) hx hw (fun D hD => ⟨Same.new hD, FRows.nil hD⟩) (fun D i acc H' st => st.1.sq hx) (fun i x H1 D acc NT NF hi hxi hD st e1 hal hT hF => ?_) (fun D H' ys hD st e hly => ?_)
  · obtain ⟨s1, f1⟩ := st
    have hri : rows[i]? = some (rows[i]'(by omega)) := List.getElem?_eq_getElem (by omega)
    show te _ H1 NT
    refine hs i x _ H1 NT hi hxi hri s1 fun p H2 hp s2 ep => ?_
    obtain ⟨e2, f2⟩ := f1.next s1 e1 hp s2 ep
    refine hT _ H2 e2 ⟨Same.mut (s1.trans s2) hD, ?_⟩
    rw [List.take_add_one, hri]
    exact f2
  · rw [← hl, List.take_length] at st
    exact k D H' st.1 st.2
end
theorem w_setV {H : Hp} {p : Addr} {xs : List V} {k : Int} {v : V} {N : Hp → Prop} (h : H p = some (.lst xs)) (h0 : 0 ≤ k) (h1 : k < xs.length) (q : N (upd H p (.lst (xs.set k.toNat v)))) : rSetL (.ref p) (.int k) v H N := by
  refine ⟨p, xs, k, k.toNat, rfl, rfl, h, ?_, q⟩
  unfold ixN
  rw [if_pos h0, if_pos h1]
theorem RRows.updL {K : PySem.W.Frag} {H : Hp} {q : Addr} {xs : List V} {o : HO} {v : V} {rows : List (List V)} (hq : H q = some (.lst xs)) (h : RRows false false K H v rows) : RRows false false K (upd H q o) v rows :=
  RTup.upd (RSeq.tup RRw.tup) RRows.mono (NTup.lst hq) h
/-- all keyword-only parameters written -/
theorem kbind_of {K : PySem.W.Frag} {x qual : Str} {st : Stmt} {f : Addr} {fd : FuncData} {ps ks : List Str} {n : Nat} (F : Fun K x qual st f fd)
    (h : ∀ (kV doc pm : Value) (an : Option Addr) (cdv ct : Value) (us ws : List Value), us.length = n → ws.length = ks.length → bindArgs (PySem.W.fnOf x qual (defArgs st) (defBody st) (defScope st) .none kV doc pm an cdv ct) ⟨us, ks.zip ws⟩ = pure (ps.zip (us ++ ws))) :
    KBn K fd ps n ks (fun us ws => us ++ ws) (fun vs zs => vs ++ zs) := by
  obtain ⟨oc, od, kV, doc, pm, an, cdv, ct, osl, rfl, lk, hcd⟩ := F.ex
  exact ⟨fun s us ws X l1 l2 => .of_eq (h kV doc pm an cdv ct us ws l1 l2), fun r1 r2 => r1.append r2⟩
/-- one keyword-only parameter that lacks: its default is read off -/
theorem kbind_dflt {K : PySem.W.Frag} {x qual m : Str} {st : Stmt} {f D : Addr} {oc doc pm cdv ct u : Value} {od an : Option Addr} {osl : Array (Option Value)} {ps : List Str} (n : Nat) (hn : n + 1 = ps.length)
    (l : K.lookup f = some ⟨oc, od, .func (PySem.W.fnOf x qual (defArgs st) (defBody st) (defScope st) .none (.ref D) doc pm an cdv ct), osl⟩) (hd : PySem.W.nsIn K D m = some (some u))
    (h : ∀ (us : List Value), us.length = n → KwChain D [(m, u)] (bindArgs (PySem.W.fnOf x qual (defArgs st) (defBody st) (defScope st) .none (.ref D) doc pm an cdv ct) ⟨us, []⟩) (ps.zip (us ++ [u]))) :
    Binds K (PySem.W.fnOf x qual (defArgs st) (defBody st) (defScope st) .none (.ref D) doc pm an cdv ct) ps [u] := fun s us X hlen => by
  have l2 : us.length = n := by
    rw [List.length_append] at hlen
    have : us.length + 1 = ps.length := hlen
    omega
  exact BindsTo.of_looks fun M => KwChain.looks X (fun q hq => by
    rw [List.mem_singleton.mp hq]
    exact hd) (h us l2)
section
variable {K : PySem.W.Frag} {σ : St} {H : Hp} {te : TE} {vs : List Nat} {Q : VK}
/-- a comprehension over enumerate that gives numbers -/
theorem c_intsE {b : Bool} {a : Addr} {i1 i2 : Nat} (xs : List V) (hx : Sq b K H a xs) (ms : List Int) (hl : ms.length = xs.length) (hz : xs.length < sizeLine) (hw : ∀ x y : V, wipe (((wipe σ vs).set i1 (some x)).set i2 (some y)) vs = wipe σ vs)
    (hs : ∀ (i : Nat) x H1 (N : VK), i < xs.length → xs[i]? = some x → Same H H1 → (∀ H4, Same H1 H4 → N (.int (nth ms (i : Nat))) H4) → te (((wipe σ vs).set i1 (some (.int (i : Int)))).set i2 (some x)) H1 N)
    (k : ∀ D H', H D = none → Same H H' → H' D = some (.lst (ms.map V.int)) → Q (.ref D) H') :
    ∃ a', [V.ref a] = [.ref a'] ∧ ((∃ xs, SqL K H a' xs) ∧ CompOk (Ite K a') (gTup K 2 (gCons (gName i1) (gCons (gName i2) gNil))) tYes te vs σ H Q ∨ (∃ xs, SqT K H a' xs) ∧ CompOk (IteT K a') (gTup K 2 (gCons (gName i1) (gCons (gName i2) gNil))) tYes te vs σ H Q) := by
  have body : ∀ (i : Nat) (v : V) H1 (T D : Addr) acc (NT : VK), i < xs.length → xs[i]? = some v → H D = none → (Same H H1 ∧ acc.length = i ∧ ∀ (j : Nat) y, acc[j]? = some y → y = .int (nth ms (j : Nat))) → H1 D = some (.lst acc) → H1 T = none →
      (∀ y H5, H5 D = some (.lst acc) → (Same H (upd H5 D (.lst (acc ++ [y]))) ∧ (acc ++ [y]).length = i + 1 ∧ ∀ (j : Nat) z, (acc ++ [y])[j]? = some z → z = .int (nth ms (j : Nat))) → NT y H5) →
      te (((wipe σ vs).set i1 (some (.int (i : Int)))).set i2 (some v)) (upd H1 T (.tup [.int (i : Int), v])) NT := fun i v H1 T D acc NT hi hv hD st e1 hT hN => by
    obtain ⟨s1, hal, hac⟩ := st
    have sT := s1.trans (Same.new (o := .tup [.int (i : Int), v]) hT)
    refine hs i v _ NT hi hv sT fun H4 s4 => hN _ H4 (s4 _ _ (Same.new hT _ _ e1)) ⟨Same.mut (sT.trans s4) hD, by rw [List.length_append, hal]; rfl, fun j z hj => ?_⟩
    by_cases hlt : j < acc.length
    · rw [List.getElem?_append_left hlt] at hj
      exact hac j z hj
    · have h1 := (List.getElem?_eq_some_iff.mp hj).1
      rw [List.length_append] at h1
      have ej : j = acc.length := by
        have : j < acc.length + 1 := h1
        omega
      subst ej
      rw [List.getElem?_append_right (Nat.le_refl _), Nat.sub_self] at hj
      cases hj
      rw [hal]
  refine ⟨a, rfl, ?_⟩
  cases b with
  | true =>
    refine .inl ⟨⟨xs, hx⟩, l_compG (walk_enum (xs := xs)) hz (fun D i acc H' => Same H H' ∧ acc.length = i ∧ ∀ (j : Nat) y, acc[j]? = some y → y = .int (nth ms (j : Nat))) (fun D hD => ⟨Same.new hD, rfl, fun j y e => by simp at e⟩) (fun D i acc H' st => st.1.sq hx) (fun i x H1 H2 D acc NT NF hi hD st e1 hal hy hT hF => ?_) (fun D H' ys hD st e hly => ?_)⟩
    · obtain ⟨T, u, v, rfl, hTn, e, hu, hv⟩ := hy
      cases hu
      subst e
      refine w_pair (Sq.tup upd_same) ⟨hw _ _, ?_⟩
      show te _ _ NT
      exact body i v H1 T D acc NT hi hv hD st e1 hTn hT
    · exact k D H' hD st.1 (by rw [e, vec_of (by omega) st.2.2])
  | false =>
    refine .inr ⟨⟨xs, hx⟩, l_compG (walk_enumT (xs := xs)) hz (fun D i acc H' => Same H H' ∧ acc.length = i ∧ ∀ (j : Nat) y, acc[j]? = some y → y = .int (nth ms (j : Nat))) (fun D hD => ⟨Same.new hD, rfl, fun j y e => by simp at e⟩) (fun D i acc H' st => st.1.sq hx) (fun i x H1 H2 D acc NT NF hi hD st e1 hal hy hT hF => ?_) (fun D H' ys hD st e hly => ?_)⟩
    · obtain ⟨T, u, v, rfl, hTn, e, hu, hv⟩ := hy
      cases hu
      subst e
      refine w_pair (Sq.tup upd_same) ⟨hw _ _, ?_⟩
      show te _ _ NT
      exact body i v H1 T D acc NT hi hv hD st e1 hTn hT
    · exact k D H' hD st.1 (by rw [e, vec_of (by omega) st.2.2])
end
end L2

namespace L2
open PySem PySem.Spec PyProof.Rows
/-! ### x + y, x - y, x * y of two instances of a class, by its own method -/
structure BinOf (K : PySem.W.Frag) (C f : Addr) (nm : Str) : Prop where
  at_ : PySem.W.findIn K (.ref C) nm = some (some (.ref f))
  fn : PySem.W.isFn K (.ref f) = true
  sf : PySem.W.selfFirst K C = true
def rBinO (C : Addr) (sp : Sp) : R2 := fun x y H Q => ∃ a dx fs b dy gs, x = .ref a ∧ y = .ref b ∧ H a = some (.ins C dx fs) ∧ H b = some (.ins C dy gs) ∧ sp [x, y] H (fun v H' => (∃ p, v = .ref p) ∧ Q v H') (fun _ _ _ => False)
theorem op_binO {X : Cx} {CX : CXT} {C f : Addr} {fd : FuncData} {ps : List Str} {sp : Sp} {n : Nat} {op : Operator} {nm : Str} (e : BinOf X.K C f nm) (F : FnOk X.prog X.w X.K X.mg X.base CX n f fd ps sp) (hr : Room n X.A) (hb : Binds X.K fd ps []) (hx : Passes CX X (fun _ _ _ => False)) (hn : PySem.dunder op.info.2 = nm := by rfl) :
    OpR X (binaryOp op) (rBinO C sp) := by
  intro pins s σ H x y v u Q I rx ry hq
  obtain ⟨a, dx, fs, b, dy, gs, rfl, rfl, ha, hb', h⟩ := hq
  obtain rfl : v = Value.ref a := rx
  obtain rfl : u = Value.ref b := ry
  obtain ⟨mA, J, _⟩ := ins_get I.hok ha
  obtain ⟨od, J, _⟩ := J.look
  obtain ⟨mB, J', _⟩ := ins_get I.hok hb'
  obtain ⟨od', J', _⟩ := J'.look
  obtain ⟨m, hF⟩ := I.fr
  refine PySem.W.binop_K (op := op) hF I.ok.mod.kin J J'.type e.sf (by rw [hn]; exact e.at_) e.fn ?_
  refine wpAny_mono (own_run F hr rfl hb hx I (show RelV (V.ref b) (Value.ref b) from rfl) h) (fun r s' z => ?_) fun _ _ z => z
  obtain ⟨z, H', I', rz, ⟨p, ez⟩, q⟩ := z
  subst ez
  obtain rfl : r = Value.ref p := rz
  exact ⟨.ref p, H', I', rfl, q⟩
end L2

namespace L2
open PySem PySem.Spec PyProof.Rows
/-! ### // of numbers of at most 4000 bits by any number; tuples that stand in the heap; dicts with tuples as keys -/
def CDivV (i j : Int) : Prop := j ≠ 0 ∧ i.natAbs < 2 ^ 4000
theorem noPylong_w {x y : Int} (h : x.natAbs < 2 ^ 4000) : Builtin.divisionGoesByPylong x y = false := by
  unfold Builtin.divisionGoesByPylong
  have k : (if x == 0 then 0 else x.natAbs.log2 / 30 + 1) ≤ 150 := by
    by_cases h0 : x = 0
    · subst h0; decide
    · rw [if_neg (by simpa using h0)]
      have h1 : x.natAbs.log2 < 4000 := (Nat.log2_lt (by omega)).mpr h
      omega
  have e : decide ((if x == 0 then 0 else x.natAbs.log2 / 30 + 1) > (if y == 0 then 0 else y.natAbs.log2 / 30 + 1) + 150) = false := decide_eq_false (by omega)
  show (decide _ && decide ((if x == 0 then 0 else x.natAbs.log2 / 30 + 1) > (if y == 0 then 0 else y.natAbs.log2 / 30 + 1) + 150)) = false
  rw [e, Bool.and_false]
theorem op_fdivV {X : Cx} : OpR X (binaryOp .FloorDiv) (rI CDivV fun i j => .int (i.fdiv j)) := opI fun _ _ _ _ _ _ _ hc q => floordiv_int hc.1 q (.inl (noPylong_w hc.2))
theorem mulW {i j : Int} (h1 : i.natAbs < 2 ^ 2000) (h2 : j.natAbs < 2 ^ 2000) : CMulX i j := mulx_ok h1 h2 (by omega)
/-- a list (true), or a tuple that stands in the heap -/
def Tq (b : Bool) (K : PySem.W.Frag) (H : Hp) (a : Addr) (xs : List V) : Prop := match b with
  | true => SqL K H a xs
  | false => H a = some (.tup xs)
theorem Tq.sq {b : Bool} {K : PySem.W.Frag} {H : Hp} {a : Addr} {xs : List V} (h : Tq b K H a xs) : Sq b K H a xs := by
  cases b
  · exact Sq.tup h
  · exact h
theorem Same.tq {b : Bool} {K : PySem.W.Frag} {H H' : Hp} {a : Addr} {xs : List V} (s : Same H H') (h : Tq b K H a xs) : Tq b K H' a xs := by
  cases b
  · exact s _ _ h
  · exact s.sq (b := true) h
section
variable {K : PySem.W.Frag} {σ : St} {H : Hp} {Q : VK}
theorem w_slTq {b : Bool} {a : Addr} {xs ys : List V} {lo hi : Option Int} (h : Tq b K H a xs) (e : cutV xs lo hi = ys) (q : ∀ p H', Same H H' → Tq b K H' p ys → Q (.ref p) H') : rSlG K (.ref a) lo hi H Q := by
  cases b with
  | true => exact .inl ⟨a, xs, rfl, h, fun p hp => q _ _ (Same.new hp) (show SqL _ _ _ _ from SqL.of (by rw [upd_same, e]))⟩
  | false =>
    refine .inr ⟨a, xs, rfl, Sq.tup h, fun hw => ?_, fun _ p hp => q _ _ (Same.new hp) (show _ = _ by rw [upd_same, e])⟩
    have e2 : xs = ys := by
      rw [← e]
      unfold cutV
      rw [hw.1, hw.2, List.drop_zero, Nat.sub_zero, List.take_length]
    exact q _ _ (Same.refl _) (e2 ▸ h)
theorem w_tupTq {b : Bool} {a : Addr} {ys : List V} (h : Tq b K H a ys) (q : ∀ p H', Same H H' → H' p = some (.tup ys) → Q (.ref p) H') : rTupS K [.ref a] H Q := by
  cases b with
  | true => exact w_tupL h fun p hp => q _ _ (Same.new hp) upd_same
  | false => exact w_tupT (Sq.tup h) (q _ _ (Same.refl _) h)
theorem w_catT {a b : Addr} {xs ys : List V} (h1 : H a = some (.tup xs)) (h2 : H b = some (.tup ys)) (hz : xs.length + ys.length ≤ 1000000) (q : ∀ p H', Same H H' → H' p = some (.tup (xs ++ ys)) → Q (.ref p) H') : rCatA K (.ref a) (.ref b) H Q :=
  ⟨a, b, xs, ys, rfl, rfl, Sq.tup h1, Sq.tup h2, by rw [sizeLine_eq]; omega, fun e => q _ _ (Same.refl _) (by rw [e]; exact h2), fun _ e => q _ _ (Same.refl _) (by rw [e, List.append_nil]; exact h1), fun _ _ p hp => q _ _ (Same.new hp) upd_same⟩
theorem w_whN {m : Nat} {W : Nat → St → Hp → Prop} {F : (St → Hp → Prop) → Prop} (q : F fun σ' H' => ∃ m', m' < m ∧ W m' σ' H') : ∃ N : St → Hp → Prop, (∀ σ' H', N σ' H' → ∃ m', m' < m ∧ W m' σ' H') ∧ F N := ⟨_, fun _ _ h => h, q⟩
theorem w_dnew (q : ∀ p, H p = none → Q (.ref p) (upd H p (.dT []))) : tDNewT σ H Q := q
theorem w_dnotin {ty td : TE} (q : ty σ H fun y H1 => td σ H1 fun x H2 => ∃ a o, x = .ref a ∧ DGet H2 a y o ∧ Q (.bl (!o.isSome)) H2) : tDNotIn ty td σ H Q := q
theorem w_par {i j : Nat} {ta : TA} {f b' c' : St → Hp → Prop} {rt : VK} (q : ta σ H fun vs H1 => ∃ v w, vs = [v, w] ∧ f ((σ.set i (some v)).set j (some w)) H1) : tPar i j ta ⟨f, rt, b', c'⟩ σ H := q
theorem w_par2 {v w : V} {F : V → V → Prop} (q : F v w) : ∃ v' w', [v, w] = [v', w'] ∧ F v' w' := ⟨v, w, rfl, q⟩
theorem w_while {c : TT} {tb : TS} {f b' c' : St → Hp → Prop} {rt : VK} (W : Nat → St → Hp → Prop) (m : Nat) (h0 : W m σ H)
    (hs : ∀ m σ H, W m σ H → c σ H fun b H1 => if b = true then ∃ N : St → Hp → Prop, (∀ σ' H', N σ' H' → ∃ m', m' < m ∧ W m' σ' H') ∧ tb ⟨N, rt, f, N⟩ σ H1 else f σ H1) : tWhile c tb ⟨f, rt, b', c'⟩ σ H := by
  refine ⟨W, ⟨m, h0⟩, fun m σ H h => ?_⟩
  exact hs m σ H h
end
/-! ### all but what stands at one place -/
theorem Fr.hide {t : Addr} {H H' : Hp} (f : Fr t H H') : Same (hide t H) H' := fun b o e => by
  by_cases h : b = t
  · subst h; rw [hide_at] at e; cases e
  · rw [hide_ne h] at e; exact f b o h e
theorem Fr.rep {α : Type} {R : Rep α} (hm : RMono R) (ht : RTup R) {t : Addr} {H H' : Hp} {v : V} {x : α} (f : Fr t H H') (hn : NTup (H t)) (h : R H v x) : R H' v x := hm _ _ _ _ f.hide (ht _ _ _ _ hn h)
theorem Fr.sqD {t : Addr} {H H' : Hp} {b : Bool} {K : PySem.W.Frag} {a : Addr} {xs : List V} {kvs : List (List Key × V)} (f : Fr t H H') (ht : H t = some (.dT kvs)) (h : Sq b K H a xs) : Sq b K H' a xs := by
  cases b with
  | true =>
    have h : SqL K H a xs := h
    rcases h with (h | ⟨o, h⟩) | h
    · exact .inl (.inl (f _ _ (fun e => by rw [e, ht] at h; cases h) h))
    · exact .inl (.inr ⟨o, f _ _ (fun e => by rw [e, ht] at h; cases h) h⟩)
    · exact .inr h
  | false =>
    have h : SqT K H a xs := h
    rcases h with (h | ⟨o, h⟩) | h
    · exact .inl (.inl (f _ _ (fun e => by rw [e, ht] at h; cases h) h))
    · exact .inl (.inr ⟨o, f _ _ (fun e => by rw [e, ht] at h; cases h) h⟩)
    · exact .inr h
theorem Fr.tqD {t : Addr} {H H' : Hp} {b : Bool} {K : PySem.W.Frag} {a : Addr} {xs : List V} {kvs : List (List Key × V)} (f : Fr t H H') (ht : H t = some (.dT kvs)) (h : Tq b K H a xs) : Tq b K H' a xs := by
  cases b with
  | true => exact f.sqD (b := true) ht h
  | false =>
    have h : H a = some (.tup xs) := h
    exact f _ _ (fun e => by rw [e, ht] at h; cases h) h
theorem NTup.dT {H : Hp} {D : Addr} {kvs : List (List Key × V)} (h : H D = some (.dT kvs)) : NTup (H D) := by rw [h]; trivial
end L2

namespace My
open PySem PySem.Spec PyProof.Rows L2
/-! ### sums of the first ones -/
def pre (ns : List Int) (j : Nat) : Int := (ns.take j).sum
theorem pre_zero (ns : List Int) : pre ns 0 = 0 := by simp [pre]
theorem pre_all (ns : List Int) : pre ns ns.length = ns.sum := by simp [pre]
theorem pre_succ {ns : List Int} {j : Nat} (h : j < ns.length) : pre ns (j + 1) = pre ns j + nth ns (j : Nat) := by
  have e : ns[j]? = some (nth ns (j : Nat)) := by
    rw [nth_nat, List.getD_eq_getElem?_getD, List.getElem?_eq_getElem h]
    rfl
  exact sum_take e
theorem pre_le {ns : List Int} (hn : ∀ x ∈ ns, (0 : Int) ≤ x) {i j : Nat} (h : i ≤ j) (hj : j ≤ ns.length) : pre ns i ≤ pre ns j := by
  induction j with
  | zero =>
    have : i = 0 := by omega
    subst this
    exact Int.le_refl _
  | succ j ih =>
    by_cases e : i = j + 1
    · subst e; exact Int.le_refl _
    · have h1 := ih (by omega) (by omega)
      have h2 := pre_succ (ns := ns) (j := j) (by omega)
      have h3 := hn _ (nth_mem (ns := ns) (i := (j : Nat)) (by omega) (by omega))
      omega

/-! ### nets in plain lists -/
def dot (us vs : List Int) : Int := (List.zipWith (· * ·) us vs).sum
def vtimes (p : Int) (M : List (List Int)) (v : List Int) : List Int := M.map fun r => dot r v % p
def vplus (p : Int) (u v : List Int) : List Int := List.zipWith (fun a b => (a + b) % p) u v
def looked (p : Int) (q : List Int) (prs : List (List Int × List Int)) (f : List Int) : List Int := prs.foldl (fun f kv => vplus p f (kv.2.map fun n => dot q kv.1 * n)) f
def zeros (q : List Int) : List Int := q.map fun _ => 0
abbrev Mat := List (List Int)
abbrev PairD := List Int × List Int
abbrev RowD := List PairD × List Int
structure NetD where
  p : Int
  emb : Mat
  sh : List Int
  lay : List (List Mat)
  out : Mat
def mt (L : List Mat) (i : Nat) : Mat := L.getD i []
def pairOf (p : Int) (L : List Mat) (x : List Int) : PairD := (vtimes p (mt L 1) x, vtimes p (mt L 2) x)
def midOf (p : Int) (L : List Mat) (prs : List PairD) (x : List Int) : List Int := vplus p x (looked p (vtimes p (mt L 0) x) (prs ++ [pairOf p L x]) (zeros (vtimes p (mt L 0) x)))
def sqOf (p : Int) (L : List Mat) (x : List Int) : List Int := (vtimes p (mt L 3) x).map fun a => a * a
def nextOf (p : Int) (L : List Mat) (prs : List PairD) (x : List Int) : List Int := vplus p (midOf p L prs x) (vtimes p (mt L 4) (sqOf p L (midOf p L prs x)))
def prsAt (rows : List RowD) (i : Nat) : List PairD := rows.map fun r => r.1.getD i ([], [])
def rowSt (nd : NetD) (rows : List RowD) (x0 : List Int) : Nat → List PairD × List Int
  | 0 => ([], x0)
  | i + 1 => ((rowSt nd rows x0 i).1 ++ [pairOf nd.p (nd.lay.getD i []) (rowSt nd rows x0 i).2], nextOf nd.p (nd.lay.getD i []) (prsAt rows i) (rowSt nd rows x0 i).2)
def startX (nd : NetD) (rows : List RowD) (l : Nat) : List Int := vplus nd.p (nd.emb.getD l []) (nd.sh.map fun n => (rows.length : Int) * n)
def lastSt (nd : NetD) (rows : List RowD) (l : Nat) : List PairD × List Int := rowSt nd rows (startX nd rows l) nd.lay.length
def rowD (nd : NetD) (rows : List RowD) (l : Nat) : RowD := ((lastSt nd rows l).1, nd.out.map fun v => 1 + dot v (lastSt nd rows l).2 % nd.p)
def rowsD (nd : NetD) : List Nat → List RowD → List RowD
  | [], acc => acc
  | l :: r, acc => rowsD nd r (acc ++ [rowD nd acc l])

/-- numbers from 0 to p - 1 -/
def Sml (p : Int) (ns : List Int) : Prop := ∀ x ∈ ns, 0 ≤ x ∧ x < p
/-- so small that products are reckoned -/
def Bd (ns : List Int) : Prop := ∀ x ∈ ns, -(2 ^ 64) < x ∧ x < 2 ^ 64
theorem Sml.bd {p : Int} {ns : List Int} (hp : p ≤ 97) (h : Sml p ns) : Bd ns := fun x hx => by have := h x hx; omega
def MatOk (p : Int) (w : Nat) (M : Mat) : Prop := ∀ r ∈ M, r.length = w ∧ Sml p r
structure NetOk (nd : NetD) (w : Nat) : Prop where
  p2 : 2 ≤ nd.p
  p97 : nd.p ≤ 97
  w4 : w ≤ 4
  emb : MatOk nd.p w nd.emb
  sh : nd.sh.length = w ∧ Sml nd.p nd.sh
  lay : ∀ L ∈ nd.lay, L.length = 5 ∧ ∀ M ∈ L, M.length = w ∧ MatOk nd.p w M
  out : MatOk nd.p w nd.out
  e12 : nd.emb.length ≤ 12
  o12 : nd.out.length ≤ 12
  l3 : nd.lay.length ≤ 3
def PairOk (p : Int) (w : Nat) (q : PairD) : Prop := (q.1.length = w ∧ Sml p q.1) ∧ q.2.length = w ∧ Sml p q.2
def RowOk (nd : NetD) (w : Nat) (r : RowD) : Prop := r.1.length = nd.lay.length ∧ (∀ q ∈ r.1, PairOk nd.p w q) ∧ r.2.length = nd.out.length
theorem vtimes_len (p : Int) (M : Mat) (v : List Int) : (vtimes p M v).length = M.length := List.length_map ..
theorem vplus_len {p : Int} {u v : List Int} (h : u.length = v.length) : (vplus p u v).length = u.length := by
  unfold vplus; rw [List.length_zipWith, h, Nat.min_self]
theorem vtimes_sml {p : Int} (hp : 0 < p) (M : Mat) (v : List Int) : Sml p (vtimes p M v) := fun x hx => by
  obtain ⟨r, _, e⟩ := List.mem_map.mp hx
  subst e
  exact ⟨Int.emod_nonneg _ (by omega), Int.emod_lt_of_pos _ hp⟩
theorem vplus_sml {p : Int} (hp : 0 < p) : ∀ (u v : List Int), Sml p (vplus p u v)
  | [], _ => fun x hx => by simp [vplus] at hx
  | _ :: _, [] => fun x hx => by simp [vplus] at hx
  | a :: u, b :: v => fun x hx => by
    have hx : x ∈ ((a + b) % p) :: vplus p u v := hx
    rcases List.mem_cons.mp hx with e | e
    · subst e; exact ⟨Int.emod_nonneg _ (by omega), Int.emod_lt_of_pos _ hp⟩
    · exact vplus_sml hp u v x e
theorem looked_len {p : Int} {q : List Int} : ∀ {prs : List PairD} {f : List Int}, (∀ kv ∈ prs, kv.2.length = f.length) → (looked p q prs f).length = f.length
  | [], f, _ => rfl
  | kv :: r, f, h => by
    have h1 := h kv (List.mem_cons_self ..)
    have e : (vplus p f (kv.2.map fun n => dot q kv.1 * n)).length = f.length := vplus_len (by rw [List.length_map, h1])
    show (looked p q r (vplus p f (kv.2.map fun n => dot q kv.1 * n))).length = f.length
    rw [looked_len (fun kv' hk => by rw [e]; exact h kv' (List.mem_cons_of_mem _ hk)), e]
theorem zeros_len (q : List Int) : (zeros q).length = q.length := List.length_map ..
theorem nth_zip {f : Int → Int → Int} {u v : List Int} {i : Nat} (h1 : i < u.length) (h2 : i < v.length) : nth (List.zipWith f u v) (i : Nat) = f (nth u (i : Nat)) (nth v (i : Nat)) := by
  simp only [nth_nat, List.getD_eq_getElem?_getD, List.getElem?_zipWith, List.getElem?_eq_getElem h1, List.getElem?_eq_getElem h2, Option.getD_some]
theorem nth_map {f : Int → Int} {u : List Int} {i : Nat} (h1 : i < u.length) : nth (u.map f) (i : Nat) = f (nth u (i : Nat)) := by
  simp only [nth_nat, List.getD_eq_getElem?_getD, List.getElem?_map, List.getElem?_eq_getElem h1, Option.map_some, Option.getD_some]
theorem nth_mapG {α : Type} {f : α → Int} {u : List α} {i : Nat} {x : α} (h1 : u[i]? = some x) : nth (u.map f) (i : Nat) = f x := by
  simp only [nth_nat, List.getD_eq_getElem?_getD, List.getElem?_map, h1, Option.map_some, Option.getD_some]
theorem nth_range {f : Nat → Int} {n i : Nat} (h1 : i < n) : nth ((List.range n).map f) (i : Nat) = f i := by
  simp only [nth_nat, List.getD_eq_getElem?_getD, List.getElem?_map, List.getElem?_range h1, Option.map_some, Option.getD_some]
theorem nth_ext {u v : List Int} (hl : u.length = v.length) (h : ∀ i : Nat, i < u.length → nth u (i : Nat) = nth v (i : Nat)) : u = v := by
  refine List.ext_getElem hl fun i h1 h2 => ?_
  have := h i h1
  simpa only [nth_nat, List.getD_eq_getElem?_getD, List.getElem?_eq_getElem h1, List.getElem?_eq_getElem h2, Option.getD_some] using this
theorem pairOf_ok {p : Int} {w : Nat} {L : List Mat} {x : List Int} (hp : 0 < p) (hL : L.length = 5 ∧ ∀ M ∈ L, M.length = w ∧ MatOk p w M) : PairOk p w (pairOf p L x) := by
  have hm : ∀ i : Nat, i < 5 → (mt L i).length = w := fun i hi => by
    unfold mt
    rw [List.getD_eq_getElem?_getD, List.getElem?_eq_getElem (by omega)]
    exact (hL.2 _ (List.getElem_mem _)).1
  exact ⟨⟨by show (vtimes p (mt L 1) x).length = w; rw [vtimes_len]; exact hm 1 (by omega), vtimes_sml hp _ _⟩, by show (vtimes p (mt L 2) x).length = w; rw [vtimes_len]; exact hm 2 (by omega), vtimes_sml hp _ _⟩
theorem mt_ok {p : Int} {w : Nat} {L : List Mat} (hL : L.length = 5 ∧ ∀ M ∈ L, M.length = w ∧ MatOk p w M) {i : Nat} (hi : i < 5) : L[i]? = some (mt L i) ∧ (mt L i).length = w ∧ MatOk p w (mt L i) := by
  have e : L[i]? = some (mt L i) := by
    unfold mt
    rw [List.getD_eq_getElem?_getD, List.getElem?_eq_getElem (by omega)]
    rfl
  exact ⟨e, hL.2 _ (List.mem_of_getElem? e)⟩
theorem midOf_len {p : Int} {w : Nat} {L : List Mat} {prs : List PairD} {x : List Int} (hp : 0 < p) (hL : L.length = 5 ∧ ∀ M ∈ L, M.length = w ∧ MatOk p w M) (hprs : ∀ q ∈ prs, PairOk p w q) (hx : x.length = w) : (midOf p L prs x).length = w := by
  have h0 := (mt_ok hL (i := 0) (by omega)).2.1
  have hq : (looked p (vtimes p (mt L 0) x) (prs ++ [pairOf p L x]) (zeros (vtimes p (mt L 0) x))).length = w := by
    rw [looked_len, zeros_len, vtimes_len, h0]
    intro kv hk
    rw [zeros_len, vtimes_len, h0]
    rcases List.mem_append.mp hk with h | h
    · exact (hprs kv h).2.1
    · rw [List.mem_singleton.mp h]; exact (pairOf_ok hp hL).2.1
  unfold midOf
  rw [vplus_len (by rw [hx, hq]), hx]
theorem nextOf_len {p : Int} {w : Nat} {L : List Mat} {prs : List PairD} {x : List Int} (hp : 0 < p) (hL : L.length = 5 ∧ ∀ M ∈ L, M.length = w ∧ MatOk p w M) (hprs : ∀ q ∈ prs, PairOk p w q) (hx : x.length = w) : (nextOf p L prs x).length = w := by
  have hm := midOf_len hp hL hprs hx
  unfold nextOf
  rw [vplus_len (by rw [hm, vtimes_len, (mt_ok hL (i := 4) (by omega)).2.1]), hm]
theorem nextOf_sml {p : Int} {L : List Mat} {prs : List PairD} {x : List Int} (hp : 0 < p) : Sml p (nextOf p L prs x) := vplus_sml hp _ _
theorem prsAt_ok {nd : NetD} {w : Nat} {rows : List RowD} (hr : ∀ r ∈ rows, RowOk nd w r) {i : Nat} (hi : i < nd.lay.length) : ∀ q ∈ prsAt rows i, PairOk nd.p w q := fun q hq => by
  obtain ⟨r, hr1, e⟩ := List.mem_map.mp hq
  obtain ⟨h1, h2, _⟩ := hr r hr1
  rw [List.getD_eq_getElem?_getD, List.getElem?_eq_getElem (by omega)] at e
  subst e
  exact h2 _ (List.getElem_mem _)
theorem rowSt_ok {nd : NetD} {w : Nat} (ok : NetOk nd w) {rows : List RowD} (hr : ∀ r ∈ rows, RowOk nd w r) {x0 : List Int} (h0 : x0.length = w ∧ Sml nd.p x0) : ∀ i, i ≤ nd.lay.length →
    (rowSt nd rows x0 i).1.length = i ∧ (∀ q ∈ (rowSt nd rows x0 i).1, PairOk nd.p w q) ∧ (rowSt nd rows x0 i).2.length = w ∧ Sml nd.p (rowSt nd rows x0 i).2
  | 0, _ => ⟨rfl, List.forall_mem_nil _, h0.1, h0.2⟩
  | i + 1, hi => by
    obtain ⟨h1, h2, h3, h4⟩ := rowSt_ok ok hr h0 i (by omega)
    have hp : 0 < nd.p := by have := ok.p2; omega
    have hL := ok.lay (nd.lay.getD i []) (by
      rw [List.getD_eq_getElem?_getD, List.getElem?_eq_getElem (by omega)]
      exact List.getElem_mem _)
    refine ⟨by show (_ ++ [_]).length = _; rw [List.length_append, h1]; rfl, fun q hq => ?_, nextOf_len hp hL (prsAt_ok hr (by omega)) h3, nextOf_sml hp⟩
    rcases List.mem_append.mp hq with h | h
    · exact h2 q h
    · rw [List.mem_singleton.mp h]; exact pairOf_ok hp hL
theorem startX_ok {nd : NetD} {w : Nat} (ok : NetOk nd w) {rows : List RowD} {l : Nat} (hl : l < nd.emb.length) : (startX nd rows l).length = w ∧ Sml nd.p (startX nd rows l) := by
  have he : (nd.emb.getD l []).length = w := by
    rw [List.getD_eq_getElem?_getD, List.getElem?_eq_getElem hl]
    exact (ok.emb _ (List.getElem_mem _)).1
  refine ⟨?_, vplus_sml (by have := ok.p2; omega) _ _⟩
  unfold startX
  rw [vplus_len (by rw [he, List.length_map, ok.sh.1]), he]
theorem rowD_ok {nd : NetD} {w : Nat} (ok : NetOk nd w) {rows : List RowD} (hr : ∀ r ∈ rows, RowOk nd w r) {l : Nat} (hl : l < nd.emb.length) : RowOk nd w (rowD nd rows l) := by
  obtain ⟨h1, h2, _, _⟩ := rowSt_ok ok hr (startX_ok ok (rows := rows) hl) nd.lay.length (Nat.le_refl _)
  exact ⟨h1, h2, List.length_map ..⟩

/-! ### the same, as the law reckons it -/
def ldot (p : Int) (a b : List Int) : Int := ((List.range a.length).map fun k => nth a (k : Nat) * nth b (k : Nat)).sum % p
theorem dot_range {a b : List Int} (h : a.length = b.length) : ((List.range a.length).map fun k => nth a ((k : Nat) : Int) * nth b ((k : Nat) : Int)) = List.zipWith (· * ·) a b := by
  refine nth_ext (by rw [List.length_map, List.length_range, List.length_zipWith, h, Nat.min_self]) fun i hi => ?_
  rw [List.length_map, List.length_range] at hi
  rw [nth_range hi, nth_zip hi (by omega)]
theorem ldot_eq {p : Int} {a b : List Int} (h : a.length = b.length) : ldot p a b = dot a b % p := by
  unfold ldot dot
  rw [dot_range h]
def lstep (p : Int) (asked : List Int) (x : List Int) (o : PairD) : List Int := (List.range x.length).map fun k => (nth x (k : Nat) + ldot p asked o.1 * nth o.2 (k : Nat)) % p
theorem lstep_eq {p : Int} {asked x f : List Int} {o : PairD} (hx : x.length = f.length) (ho : o.2.length = f.length) (ha : asked.length = o.1.length) : lstep p asked (vplus p x f) o = vplus p x (vplus p f (o.2.map fun n => dot asked o.1 * n)) := by
  have h1 : (vplus p x f).length = f.length := by rw [vplus_len hx, hx]
  have h2 : (vplus p f (o.2.map fun n => dot asked o.1 * n)).length = f.length := vplus_len (by rw [List.length_map, ho])
  refine nth_ext (by unfold lstep; rw [List.length_map, List.length_range, h1, vplus_len (by rw [h2, hx]), hx]) fun i hi => ?_
  unfold lstep at hi ⊢
  rw [List.length_map, List.length_range, h1] at hi
  rw [nth_range (by rw [h1]; exact hi), ldot_eq ha]
  unfold vplus at h2 ⊢
  rw [nth_zip (by omega) hi, nth_zip (by omega) (by omega), nth_zip hi (by rw [List.length_map]; omega), nth_map (by omega)]
  generalize nth x (i : Nat) = a
  generalize nth f (i : Nat) = b
  generalize nth o.2 (i : Nat) = c
  generalize dot asked o.1 = d
  rw [Int.emod_add_emod, Int.add_emod_emod, ← Int.add_assoc, Int.add_emod (a + b) (d % p * c), Int.add_emod (a + b) (d * c), show d % p * c % p = d * c % p by rw [Int.mul_emod (d % p) c, Int.emod_emod, ← Int.mul_emod]]
theorem latt_eq {p : Int} {asked x : List Int} : ∀ {prs : List PairD} {f : List Int}, x.length = f.length → (∀ o ∈ prs, o.2.length = f.length ∧ asked.length = o.1.length) → prs.foldl (lstep p asked) (vplus p x f) = vplus p x (looked p asked prs f)
  | [], f, _, _ => rfl
  | o :: r, f, hx, h => by
    obtain ⟨h1, h2⟩ := h o (List.mem_cons_self ..)
    have e : (vplus p f (o.2.map fun n => dot asked o.1 * n)).length = f.length := vplus_len (by rw [List.length_map, h1])
    show r.foldl (lstep p asked) (lstep p asked (vplus p x f) o) = vplus p x (looked p asked r (vplus p f (o.2.map fun n => dot asked o.1 * n)))
    rw [lstep_eq hx h1 h2]
    exact latt_eq (by rw [e]; exact hx) fun o' ho => by rw [e]; exact h o' (List.mem_cons_of_mem _ ho)
theorem vplus_zero {p : Int} {x z : List Int} (hx : Sml p x) (hz : z.length = x.length) (h0 : ∀ i : Nat, i < z.length → nth z (i : Nat) = 0) : vplus p x z = x := by
  refine nth_ext (vplus_len hz.symm) fun i hi => ?_
  rw [vplus_len hz.symm] at hi
  unfold vplus
  rw [nth_zip hi (by omega), h0 i (by omega), Int.add_zero]
  have := hx _ (nth_mem (ns := x) (i := ((i : Nat) : Int)) (by omega) (by omega))
  exact Int.emod_eq_of_lt this.1 this.2
theorem mid_law {p : Int} {w : Nat} {L : List Mat} {prs : List PairD} {x : List Int} (hp : 0 < p) (hL : L.length = 5 ∧ ∀ M ∈ L, M.length = w ∧ MatOk p w M) (hprs : ∀ q ∈ prs, PairOk p w q) (hx : x.length = w ∧ Sml p x) :
    (prs ++ [pairOf p L x]).foldl (lstep p (vtimes p (mt L 0) x)) x = midOf p L prs x := by
  have h0 := (mt_ok hL (i := 0) (by omega)).2.1
  have hz : (zeros (vtimes p (mt L 0) x)).length = x.length := by rw [zeros_len, vtimes_len, h0, hx.1]
  have e0 : vplus p x (zeros (vtimes p (mt L 0) x)) = x := vplus_zero hx.2 hz fun i hi => by
    unfold zeros at hi ⊢
    rw [nth_map (by rw [List.length_map] at hi; exact hi)]
  have key := latt_eq (p := p) (asked := vtimes p (mt L 0) x) (x := x) (prs := prs ++ [pairOf p L x]) (f := zeros (vtimes p (mt L 0) x)) hz.symm fun o ho => by
    rw [hz, hx.1, vtimes_len, h0]
    rcases List.mem_append.mp ho with h | h
    · exact ⟨(hprs o h).2.1, (hprs o h).1.1.symm⟩
    · rw [List.mem_singleton.mp h]; exact ⟨(pairOf_ok hp hL).2.1, (pairOf_ok hp hL).1.1.symm⟩
  rw [e0] at key
  exact key
theorem vplus_range {p : Int} {u v : List Int} (h : u.length = v.length) : ((List.range u.length).map fun k => (nth u ((k : Nat) : Int) + nth v ((k : Nat) : Int)) % p) = vplus p u v := by
  refine nth_ext (by rw [List.length_map, List.length_range, vplus_len h]) fun i hi => ?_
  rw [List.length_map, List.length_range] at hi
  rw [nth_range hi]
  unfold vplus
  rw [nth_zip hi (by omega)]

/-! ### fractions as core's rationals -/
theorem div_num {a b : Int} (hb : 0 < b) : (Rat.divInt a b).num = a / ((Nat.gcd a.natAbs b.natAbs : Nat) : Int) := by
  rw [Rat.num_divInt, Int.sign_eq_one_of_pos hb, Int.one_mul]
  show a / ((Nat.gcd b.natAbs a.natAbs : Nat) : Int) = _
  rw [Nat.gcd_comm]
theorem div_den {a b : Int} (hb : 0 < b) : ((Rat.divInt a b).den : Int) = b / ((Nat.gcd a.natAbs b.natAbs : Nat) : Int) := by
  rw [Rat.den_divInt, if_neg (by omega)]
  show ((b.natAbs / Nat.gcd b.natAbs a.natAbs : Nat) : Int) = _
  rw [Nat.gcd_comm, Int.natCast_ediv, Int.natAbs_of_nonneg (by omega)]
theorem fdiv_pos {a b : Int} (hb : 0 < b) : a.fdiv b = a / b := Int.fdiv_eq_ediv_of_nonneg a (by omega)
theorem fdiv_neg {a b : Int} (hb : 0 < b) : a.fdiv (-b) = (-a) / b := by
  rw [← fdiv_pos hb, ← Int.neg_fdiv_neg, Int.neg_neg]
/-- both less than 2 ^ n -/
def RB (n : Nat) (q : Rat) : Prop := q.num.natAbs < 2 ^ n ∧ q.den < 2 ^ n
theorem div_le (a b : Nat) : a / b ≤ a := Nat.div_le_self a b
theorem RB.div {a b : Int} {n : Nat} (hb : 0 < b) (h1 : a.natAbs < 2 ^ n) (h2 : b.natAbs < 2 ^ n) : RB n (Rat.divInt a b) := by
  constructor
  · rw [div_num hb]
    have : (a / ((Nat.gcd a.natAbs b.natAbs : Nat) : Int)).natAbs ≤ a.natAbs := Int.natAbs_ediv_le_natAbs a _
    omega
  · rw [Rat.den_divInt, if_neg (by omega)]
    have := div_le b.natAbs (b.gcd a)
    omega
theorem RB.mul {p q : Rat} {n m : Nat} (h1 : RB n p) (h2 : RB m q) : RB (n + m) (p * q) := by
  have e : p * q = Rat.divInt (p.num * q.num) ((p.den : Int) * (q.den : Int)) := by
    rw [← Rat.divInt_mul_divInt, Rat.num_divInt_den, Rat.num_divInt_den]
  have d1 := Nat.pos_of_ne_zero p.den_nz
  have d2 := Nat.pos_of_ne_zero q.den_nz
  rw [e]
  refine RB.div (by have := Nat.mul_pos d1 d2; rw [← Int.natCast_mul]; omega) ?_ ?_
  · rw [Int.natAbs_mul, Nat.pow_add]
    exact Nat.mul_lt_mul'' h1.1 h2.1
  · rw [← Int.natCast_mul, Int.natAbs_natCast, Nat.pow_add]
    exact Nat.mul_lt_mul'' h1.2 h2.2
theorem RB.mono {p : Rat} {n m : Nat} (h : RB n p) (hl : n ≤ m) : RB m p :=
  ⟨Nat.lt_of_lt_of_le h.1 (Nat.pow_le_pow_right (by omega) hl), Nat.lt_of_lt_of_le h.2 (Nat.pow_le_pow_right (by omega) hl)⟩
theorem mul_parts (p q : Rat) : p * q = Rat.divInt (p.num * q.num) ((p.den : Int) * (q.den : Int)) := by
  rw [← Rat.divInt_mul_divInt, Rat.num_divInt_den, Rat.num_divInt_den]
theorem add_parts (p q : Rat) : p + q = Rat.divInt (p.num * (q.den : Int) + q.num * (p.den : Int)) ((p.den : Int) * (q.den : Int)) := by
  have d1 := p.den_nz
  have d2 := q.den_nz
  rw [← Rat.divInt_add_divInt _ _ (by omega) (by omega), Rat.num_divInt_den, Rat.num_divInt_den]
theorem den_mul (p q : Rat) : (0 : Int) < (p.den : Int) * (q.den : Int) := by
  have d1 := Nat.pos_of_ne_zero p.den_nz
  have d2 := Nat.pos_of_ne_zero q.den_nz
  have := Nat.mul_pos d1 d2
  rw [← Int.natCast_mul]; omega
theorem add_same {a b t : Int} (ht : t ≠ 0) : Rat.divInt a t + Rat.divInt b t = Rat.divInt (a + b) t := by
  rw [Rat.divInt_add_divInt _ _ ht ht, ← Int.add_mul, Int.mul_comm (a + b) t, Rat.divInt_mul_left ht]
theorem div_all {t : Int} (ht : t ≠ 0) : Rat.divInt t t = 1 := by
  have h := Rat.divInt_mul_left (n := 1) (d := 1) ht
  rw [Int.mul_one] at h
  rw [h]; rfl
theorem zero_div' (t : Int) : Rat.divInt 0 t = 0 := Rat.zero_divInt t
/-- Euclid, two steps halve -/
theorem euc_half {a b : Nat} (hb : 0 < b) (h : b ≤ a) : 2 * (a % b) ≤ a := by
  have h1 := Nat.mod_lt a hb
  have h2 := Nat.div_add_mod a b
  have h3 : 1 ≤ a / b := (Nat.le_div_iff_mul_le hb).mpr (by omega)
  have h4 : b * 1 ≤ b * (a / b) := Nat.mul_le_mul_left b h3
  omega
theorem gcd_step (a b : Nat) : Nat.gcd b (a % b) = Nat.gcd a b := by
  rw [Nat.gcd_comm a b, Nat.gcd_rec b a, Nat.gcd_comm]

/-! ### one step of a reading; the closers -/
local macro_rules | `(tactic| walk_at "same") => `(tactic| first
  | assumption
  | exact Same.refl _
  | (refine Same.trans ?_ (Same.new (by assumption)); walk_at "same")
  | (refine Same.mut ?_ (by assumption); walk_at "same")
  | (refine Same.trans (H1 := _) ?_ (by assumption); walk_at "same"))
local macro_rules | `(tactic| walk_at "at") => `(tactic| first
  | assumption
  | exact upd_same
  | (refine Same.at ?_ (by assumption); walk_at "same"))
local macro_rules | `(tactic| walk_at "sq") => `(tactic| first
  | assumption
  | exact Sq.lst (by walk_at "at")
  | exact Sq.tup (by walk_at "at")
  | (refine Same.sq ?_ (by assumption); walk_at "same"))
local macro_rules | `(tactic| walk_at "lk") => `(tactic| first
  | exact lk_here
  | (refine lk_next (by decide +kernel) ?_; walk_at "lk")
  | exact rfl)
local macro_rules | `(tactic| walk_at "pf") => `(tactic| first
  | exact pf_here
  | (apply pf_next (by decide +kernel); walk_at "pf")
  | exact pf_nil)
local macro_rules | `(tactic| walk_at "num") => `(tactic| first
  | omega
  | assumption
  | (unfold CMul; omega)
  | (unfold CDiv; omega)
  | (unfold CPow; refine ⟨?_, ?_, ?_⟩ <;> first | omega | decide)
  | decide
  | (simp only [List.length_append, List.length_cons, List.length_nil, List.length_map, List.length_range] at *; omega))
local macro_rules | `(tactic| walk_at "vv") => `(tactic| first
  | exact tape_cells
  | exact tape_at
  | exact tape_great
  | exact tape_left
  | exact tape_seed
  | exact tape_turn
  | exact val_pos
  | (refine (val_neg (by decide +kernel)).trans ?_; walk_at "vv"))
local macro_rules | `(tactic| walk_at "pp") => `(tactic| first
  | exact tape_setAt
  | exact tape_setGreat
  | exact tape_setLeft
  | exact tape_setSeed
  | exact tape_setTurn)
local macro_rules | `(tactic| walk_at "dl") => `(tactic| first
  | exact tape_len
  | (show _ < 1000; simp only [List.length_cons, List.length_nil]; omega))
local macro_rules | `(tactic| walk_at "go1") => `(tactic| first
  | with_reducible refine w_var rfl ?_
  | with_reducible refine w_seq ?_
  | with_reducible refine w_asg ?_
  | with_reducible refine w_gName ?_
  | with_reducible refine w_nx ?_
  | with_reducible refine w_c ?_
  | with_reducible refine w_op ?_
  | with_reducible refine w_I0 ?_
  | with_reducible refine w_addI ?_
  | with_reducible refine w_cb ?_
  | with_reducible refine w_aCons ?_
  | with_reducible refine w_aNil ?_
  | with_reducible refine w_int1 ?_
  | with_reducible refine w_int1b ?_
  | ((with_reducible refine w_I ?_ ?_); (· walk_at "num"))
  | with_reducible refine w_test ?_
  | with_reducible refine w_exb ?_
  | with_reducible refine w_exi ?_
  | with_reducible refine w_ifS ?_
  | with_reducible refine w_tru ?_
  | with_reducible refine w_truB ?_
  | with_reducible refine w_eqI ?_
  | with_reducible refine w_neI ?_
  | with_reducible refine iteT ?_
  | with_reducible refine iteF ?_
  | with_reducible refine w_not ?_
  | with_reducible refine w_and ?_
  | with_reducible refine w_or ?_
  | with_reducible refine w_iteNT ?_
  | with_reducible refine w_iteNF ?_
  | with_reducible refine w_rt ?_
  | with_reducible refine w_ret ?_
  | with_reducible refine w_retN ?_
  | with_reducible refine w_next ?_
  | with_reducible refine w_drop ?_
  | with_reducible refine w_augI rfl ?_
  | with_reducible refine w_ipI ?_
  | with_reducible refine w_un ?_
  | with_reducible refine w_rU ?_
  | with_reducible refine w_abs ?_
  | with_reducible refine w_max2 ?_
  | with_reducible refine w_min2 ?_
  | with_reducible refine w_call ?_
  | with_reducible refine w_tB ?_
  | with_reducible refine w_bm ?_
  | ((with_reducible show tyV _ "list" (V.ref _) _ ∧ _); refine w_tyL (by walk_at "sq") ?_)
  | ((with_reducible show rIx _ (V.ref _) (V.int _) _ _); refine w_ixI (by walk_at "sq") (by walk_at "num") (by walk_at "num") ?_)
  | ((with_reducible show rSumS _ [V.ref _] _ _); refine w_sumI (by walk_at "sq") ?_)
  | ((with_reducible show rLenS _ [V.ref _] _ _); refine w_lenI (by walk_at "sq") ?_)
  | ((with_reducible show rLenS _ [V.ref _] _ _); refine w_lenS (by walk_at "sq") ?_)
  | with_reducible refine w_isNn ?_
  | with_reducible refine w_isNi ?_
  | with_reducible refine w_isNb ?_
  | with_reducible refine w_isNs ?_
  | with_reducible refine w_isNr ?_
  | with_reducible refine w_notNn ?_
  | with_reducible refine w_notNi ?_
  | with_reducible refine w_notNb ?_
  | with_reducible refine w_notNs ?_
  | with_reducible refine w_notNr ?_
  | with_reducible refine w_lstD ?_
  | with_reducible refine w_tupD ?_
  | with_reducible refine w_sl ?_
  | with_reducible refine w_noPart ?_
  | with_reducible refine w_part ?_
  | with_reducible refine w_for ?_
  | with_reducible refine w_iRng1 ?_
  | with_reducible refine w_iRng2 ?_
  | with_reducible refine w_iSeq ?_
  | with_reducible refine w_iEnumS ?_
  | with_reducible refine w_andV ?_
  | with_reducible refine w_orV ?_
  | with_reducible refine w_notV ?_
  | with_reducible refine w_ifE ?_
  | with_reducible refine w_brk ?_
  | with_reducible refine w_cont ?_
  | with_reducible refine w_gSub ?_
  | with_reducible refine w_lc ?_
  | with_reducible refine w_iZipS ?_
  | with_reducible refine w_fld ?_
  | ((with_reducible show ∃ a C dx fs v, V.ref _ = V.ref a ∧ _ ∧ Cls _ _ ∧ NoAttr _ _ _ ∧ _ ∧ _); refine w_fldAt (by walk_at "at") (by assumption) (by assumption) (by walk_at "lk") ?_)
  | with_reducible refine w_sfld ?_
  | ((with_reducible show ∃ a C dx fs, V.ref _ = V.ref a ∧ _ ∧ Cls _ _ ∧ NoAttr _ _ _ ∧ _ ∧ _); refine w_sfldAt (by walk_at "at") (by assumption) (by assumption) (by show _ < 1000; simp only [List.length_cons, List.length_nil]; omega) (by walk_at "pf") ?_)
  | with_reducible refine w_meth ?_
  | ((with_reducible show ∃ a dx fs, V.ref _ = V.ref a ∧ _ ∧ _ ∧ _); refine w_methAt (by walk_at "at") (by walk_at "lk") ?_)
  | with_reducible refine w_make ?_
  | with_reducible refine w_chain ?_
  | with_reducible refine w_dget ?_
  | ((with_reducible show ∃ a v, V.ref _ = V.ref a ∧ DGet _ a (V.str _) (some v) ∧ _); refine w_dgetAt (by walk_at "at") (by walk_at "vv") ?_)
  | ((with_reducible show ∃ a H4, V.ref _ = V.ref a ∧ DPut _ a (V.str _) _ H4 ∧ _); refine w_dputAt (by walk_at "at") (by walk_at "dl") (by walk_at "pp") ?_)
  | with_reducible refine w_dput ?_
  | with_reducible refine w_disp ?_
  | with_reducible refine w_prop ?_
  | ((with_reducible show ∃ a dx fs, V.ref _ = V.ref a ∧ _ ∧ _); refine w_propAt (by walk_at "at") ?_)
  | with_reducible refine w_lstRg ?_
  | with_reducible refine w_tupRg ?_
  | with_reducible refine w_rg1 ?_
  | with_reducible refine w_rg2 ?_
  | with_reducible refine w_augS ?_
  | ((with_reducible show rGetL (V.ref _) (V.int _) _ _); refine w_getI (by walk_at "at") (by walk_at "num") (by walk_at "num") ?_)
  | with_reducible refine w_pair0 ?_
  | with_reducible refine w_pair1 ?_
  | with_reducible refine w_bk ?_
  | with_reducible refine w_ct ?_)
local macro_rules | `(tactic| walk_at "go") => `(tactic| repeat walk_at "go1")

def topS (i : Nat) : Stmt := PySem.Challenge.pw_servedalone_k59_next_shares_and_texts.main.body.getD i (.Pass ⟨0, 0, 0, 0⟩)
abbrev s_u_wall : Stmt := topS 0
abbrev s_InvalidNumber___init__ : Stmt := inClass (topS 3) 0
abbrev s_InvalidLetter___init__ : Stmt := inClass (topS 4) 0
abbrev s_rows_of : Stmt := topS 6
abbrev s_weights_behind : Stmt := topS 7
abbrev s_greatest_divisor : Stmt := topS 9
abbrev s_Share___init__ : Stmt := inClass (topS 10) 0
abbrev s_Share___add__ : Stmt := inClass (topS 10) 1
abbrev s_Share___sub__ : Stmt := inClass (topS 10) 2
abbrev s_Share___mul__ : Stmt := inClass (topS 10) 3
abbrev s_Share___eq__ : Stmt := inClass (topS 10) 4
abbrev s_Share_is_below : Stmt := inClass (topS 10) 5
abbrev s_next_shares : Stmt := topS 12
abbrev s_text_share : Stmt := topS 13
abbrev s_is_between : Stmt := topS 16
abbrev s_vector_of : Stmt := topS 17
abbrev s_matrix_of : Stmt := topS 18
abbrev s_product_sum : Stmt := topS 19
abbrev s_Net___init__ : Stmt := inClass (topS 20) 0
abbrev s_Net_letters : Stmt := inClass (topS 20) 1
abbrev s_Net_is_letter : Stmt := inClass (topS 20) 2
abbrev s_Net_rest : Stmt := inClass (topS 20) 3
abbrev s_Net_times : Stmt := inClass (topS 20) 4
abbrev s_Net_plus : Stmt := inClass (topS 20) 5
abbrev s_Net_looked_at : Stmt := inClass (topS 20) 6
abbrev s_Net_row : Stmt := inClass (topS 20) 7
abbrev s_L_numbers : Stmt := topS 22
abbrev s_L_same : Stmt := topS 23
abbrev s_L_vector : Stmt := topS 24
abbrev s_L_net : Stmt := topS 25
abbrev s_L_dot : Stmt := topS 26
abbrev s_L_times : Stmt := topS 27
abbrev s_L_row : Stmt := topS 28
abbrev s_L_common : Stmt := topS 29
abbrev s_L_least : Stmt := topS 30
abbrev s_L_plus : Stmt := topS 31
abbrev s_L_by : Stmt := topS 32
abbrev s_L_is_share : Stmt := topS 33
abbrev s_L_shares : Stmt := topS 34
abbrev s_L_text_share : Stmt := topS 35
abbrev s_L_asked : Stmt := topS 36
abbrev s_law : Stmt := topS 37
theorem sc_u_wall : FnScope ["k"] ["k"] (defScope s_u_wall) := ⟨rfl, rfl, rfl, by decide +kernel, rfl, by decide +kernel, by decide +kernel⟩
theorem sc_InvalidNumber___init__ : FnScope ["self", "number"] ["self", "number"] (defScope s_InvalidNumber___init__) := ⟨rfl, rfl, rfl, by decide +kernel, rfl, by decide +kernel, by decide +kernel⟩
theorem sc_InvalidLetter___init__ : FnScope ["self", "letter"] ["self", "letter"] (defScope s_InvalidLetter___init__) := ⟨rfl, rfl, rfl, by decide +kernel, rfl, by decide +kernel, by decide +kernel⟩
theorem sc_rows_of : FnScope ["net", "letters", "rows", "letter"] ["net", "letters"] (defScope s_rows_of) := ⟨rfl, rfl, rfl, by decide +kernel, rfl, by decide +kernel, by decide +kernel⟩
theorem sc_weights_behind : FnScope ["net", "letters"] ["net", "letters"] (defScope s_weights_behind) := ⟨rfl, rfl, rfl, by decide +kernel, rfl, by decide +kernel, by decide +kernel⟩
theorem sc_greatest_divisor : FnScope ["one", "two"] ["one", "two"] (defScope s_greatest_divisor) := ⟨rfl, rfl, rfl, by decide +kernel, rfl, by decide +kernel, by decide +kernel⟩
theorem sc_Share___init__ : FnScope ["self", "over", "under", "by"] ["self", "over", "under"] (defScope s_Share___init__) := ⟨rfl, rfl, rfl, by decide +kernel, rfl, by decide +kernel, by decide +kernel⟩
theorem sc_Share___add__ : FnScope ["self", "other"] ["self", "other"] (defScope s_Share___add__) := ⟨rfl, rfl, rfl, by decide +kernel, rfl, by decide +kernel, by decide +kernel⟩
theorem sc_Share___sub__ : FnScope ["self", "other"] ["self", "other"] (defScope s_Share___sub__) := ⟨rfl, rfl, rfl, by decide +kernel, rfl, by decide +kernel, by decide +kernel⟩
theorem sc_Share___mul__ : FnScope ["self", "other"] ["self", "other"] (defScope s_Share___mul__) := ⟨rfl, rfl, rfl, by decide +kernel, rfl, by decide +kernel, by decide +kernel⟩
theorem sc_Share___eq__ : FnScope ["self", "other"] ["self", "other"] (defScope s_Share___eq__) := ⟨rfl, rfl, rfl, by decide +kernel, rfl, by decide +kernel, by decide +kernel⟩
theorem sc_Share_is_below : FnScope ["self", "other"] ["self", "other"] (defScope s_Share_is_below) := ⟨rfl, rfl, rfl, by decide +kernel, rfl, by decide +kernel, by decide +kernel⟩
theorem sc_next_shares : FnScope ["net", "letters", "weights", "total", "weight"] ["net", "letters"] (defScope s_next_shares) := ⟨rfl, rfl, rfl, by decide +kernel, rfl, by decide +kernel, by decide +kernel⟩
theorem sc_text_share : FnScope ["net", "prompt", "text", "share", "letters", "letter"] ["net", "prompt", "text"] (defScope s_text_share) := ⟨rfl, rfl, rfl, by decide +kernel, rfl, by decide +kernel, by decide +kernel⟩
theorem sc_is_between : FnScope ["value", "least", "most"] ["value", "least", "most"] (defScope s_is_between) := ⟨rfl, rfl, rfl, by decide +kernel, rfl, by decide +kernel, by decide +kernel⟩
theorem sc_vector_of : FnScope ["numbers"] ["numbers"] (defScope s_vector_of) := ⟨rfl, rfl, rfl, by decide +kernel, rfl, by decide +kernel, by decide +kernel⟩
theorem sc_matrix_of : FnScope ["rows", "row"] ["rows"] (defScope s_matrix_of) := ⟨rfl, rfl, rfl, by decide +kernel, rfl, by decide +kernel, by decide +kernel⟩
theorem sc_product_sum : FnScope ["one", "two", "total", "number", "other"] ["one", "two"] (defScope s_product_sum) := ⟨rfl, rfl, rfl, by decide +kernel, rfl, by decide +kernel, by decide +kernel⟩
theorem sc_Net___init__ : FnScope ["self", "prime", "embed", "shift", "layers", "out", "end", "layer", "matrix"] ["self", "prime", "embed", "shift", "layers", "out", "end"] (defScope s_Net___init__) := ⟨rfl, rfl, rfl, by decide +kernel, rfl, by decide +kernel, by decide +kernel⟩
theorem sc_Net_letters : FnScope ["self"] ["self"] (defScope s_Net_letters) := ⟨rfl, rfl, rfl, by decide +kernel, rfl, by decide +kernel, by decide +kernel⟩
theorem sc_Net_is_letter : FnScope ["self", "value"] ["self", "value"] (defScope s_Net_is_letter) := ⟨rfl, rfl, rfl, by decide +kernel, rfl, by decide +kernel, by decide +kernel⟩
theorem sc_Net_rest : FnScope ["self", "number"] ["self", "number"] (defScope s_Net_rest) := ⟨rfl, rfl, rfl, by decide +kernel, rfl, by decide +kernel, by decide +kernel⟩
theorem sc_Net_times : FnScope ["self", "matrix", "vector", "row"] ["self", "matrix", "vector"] (defScope s_Net_times) := ⟨rfl, rfl, rfl, by decide +kernel, rfl, by decide +kernel, by decide +kernel⟩
theorem sc_Net_plus : FnScope ["self", "one", "two", "number", "other"] ["self", "one", "two"] (defScope s_Net_plus) := ⟨rfl, rfl, rfl, by decide +kernel, rfl, by decide +kernel, by decide +kernel⟩
theorem sc_Net_looked_at : FnScope ["self", "query", "pairs", "found", "key", "value", "part", "_", "number"] ["self", "query", "pairs"] (defScope s_Net_looked_at) := ⟨rfl, rfl, rfl, by decide +kernel, rfl, by decide +kernel, by decide +kernel⟩
theorem sc_Net_row : FnScope ["self", "rows", "letter", "x", "own", "layer", "query", "key", "value", "first", "second", "pair", "pairs", "weights", "vector", "number", "row"] ["self", "rows", "letter"] (defScope s_Net_row) := ⟨rfl, rfl, rfl, by decide +kernel, rfl, by decide +kernel, by decide +kernel⟩
theorem sc_L_numbers : FnScope ["_law_cell", "_law_at", "_law_many", "_law_great", "_law_rest", "_law_numbers_here", "_law_k", "_law_mixed"] ["_law_cell", "_law_at", "_law_many"] (defScope s_L_numbers) := ⟨rfl, rfl, rfl, by decide +kernel, rfl, by decide +kernel, by decide +kernel⟩
theorem sc_L_same : FnScope ["_law_actual", "_law_expected", "_law_k"] ["_law_actual", "_law_expected"] (defScope s_L_same) := ⟨rfl, rfl, rfl, by decide +kernel, rfl, by decide +kernel, by decide +kernel⟩
theorem sc_L_vector : FnScope ["_law_numbers_here", "_law_at", "_law_width", "_law_prime", "_law_vector_here", "_law_j"] ["_law_numbers_here", "_law_at", "_law_width", "_law_prime"] (defScope s_L_vector) := ⟨rfl, rfl, rfl, by decide +kernel, rfl, by decide +kernel, by decide +kernel⟩
theorem sc_L_net : FnScope ["_law_numbers_here", "_law_letters", "_law_width", "_law_many", "_law_prime", "_law_rows", "_law_j", "_law_layers", "_law_at", "_law_matrices", "_law_first"] ["_law_numbers_here", "_law_letters", "_law_width", "_law_many", "_law_prime"] (defScope s_L_net) := ⟨rfl, rfl, rfl, by decide +kernel, rfl, by decide +kernel, by decide +kernel⟩
theorem sc_L_dot : FnScope ["_law_one", "_law_other", "_law_prime", "_law_total", "_law_k"] ["_law_one", "_law_other", "_law_prime"] (defScope s_L_dot) := ⟨rfl, rfl, rfl, by decide +kernel, rfl, by decide +kernel, by decide +kernel⟩
theorem sc_L_times : FnScope ["_law_matrix", "_law_vector_here", "_law_prime", "_law_row_here"] ["_law_matrix", "_law_vector_here", "_law_prime"] (defScope s_L_times) := ⟨rfl, rfl, rfl, by decide +kernel, rfl, by decide +kernel, by decide +kernel⟩
theorem sc_L_row : FnScope ["_law_net_here", "_law_rows", "_law_letter", "_law_prime", "_law_x", "_law_pairs", "_law_at", "_law_layer", "_law_asked_here", "_law_pair", "_law_other", "_law_near", "_law_squares", "_law_more", "_law_k", "_law_one", "_law_row_here"] ["_law_net_here", "_law_rows", "_law_letter"] (defScope s_L_row) := ⟨rfl, rfl, rfl, by decide +kernel, rfl, by decide +kernel, by decide +kernel⟩
theorem sc_L_common : FnScope ["_law_one", "_law_other", "_law_k", "_law_rest"] ["_law_one", "_law_other"] (defScope s_L_common) := ⟨rfl, rfl, rfl, by decide +kernel, rfl, by decide +kernel, by decide +kernel⟩
theorem sc_L_least : FnScope ["_law_over", "_law_under", "_law_common_here"] ["_law_over", "_law_under"] (defScope s_L_least) := ⟨rfl, rfl, rfl, by decide +kernel, rfl, by decide +kernel, by decide +kernel⟩
theorem sc_L_plus : FnScope ["_law_one", "_law_other"] ["_law_one", "_law_other"] (defScope s_L_plus) := ⟨rfl, rfl, rfl, by decide +kernel, rfl, by decide +kernel, by decide +kernel⟩
theorem sc_L_by : FnScope ["_law_one", "_law_other"] ["_law_one", "_law_other"] (defScope s_L_by) := ⟨rfl, rfl, rfl, by decide +kernel, rfl, by decide +kernel, by decide +kernel⟩
theorem sc_L_is_share : FnScope ["_law_told", "_law_due"] ["_law_told", "_law_due"] (defScope s_L_is_share) := ⟨rfl, rfl, rfl, by decide +kernel, rfl, by decide +kernel, by decide +kernel⟩
theorem sc_L_shares : FnScope ["_law_net_here", "_law_kept", "_law_letters", "_law_rows", "_law_k", "_law_begun", "_law_weights", "_law_weight"] ["_law_net_here", "_law_kept", "_law_letters"] (defScope s_L_shares) := ⟨rfl, rfl, rfl, by decide +kernel, rfl, by decide +kernel, by decide +kernel⟩
theorem sc_L_text_share : FnScope ["_law_net_here", "_law_kept", "_law_prompt", "_law_text", "_law_share", "_law_k"] ["_law_net_here", "_law_kept", "_law_prompt", "_law_text"] (defScope s_L_text_share) := ⟨rfl, rfl, rfl, by decide +kernel, rfl, by decide +kernel, by decide +kernel⟩
theorem sc_L_asked : FnScope ["_law_told", "_law_net_here", "_law_kept", "_law_letters", "_law_prompt", "_law_text", "_law_listed", "_law_handed", "_law_shares_here", "_law_dues", "_law_whole", "_law_k"] ["_law_told", "_law_net_here", "_law_kept", "_law_letters", "_law_prompt", "_law_text", "_law_listed"] (defScope s_L_asked) := ⟨rfl, rfl, rfl, by decide +kernel, rfl, by decide +kernel, by decide +kernel⟩
theorem sc_law : FnScope ["_law_script", "_law_at", "_law_numbers_here", "_law_primes", "_law_prime", "_law_letters", "_law_net_here", "_law_told", "_law_kept", "_law_prompt", "_law_text", "_law_first", "_law_last", "_law_one", "_law_k"] ["_law_script"] (defScope s_law) := ⟨rfl, rfl, rfl, by decide +kernel, rfl, by decide +kernel, by decide +kernel⟩

structure Txt (K : PySem.W.Frag) (mg : Str → Option Value) : Type where
  z_abs : mg "abs" = none
  z_bool : mg "bool" = none
  z_enumerate : mg "enumerate" = none
  z_int : mg "int" = none
  z_isinstance : mg "isinstance" = none
  z_len : mg "len" = none
  z_list : mg "list" = none
  z_min : mg "min" = none
  z_range : mg "range" = none
  z_str : mg "str" = none
  z_sum : mg "sum" = none
  z_tuple : mg "tuple" = none
  z_zip : mg "zip" = none
  c_Net : Addr
  C_Net : Cls K c_Net
  gc_Net : mg "Net" = some (.ref c_Net)
  n_Net_prime : NoAttr K c_Net "prime"
  n_Net_embed : NoAttr K c_Net "embed"
  n_Net_shift : NoAttr K c_Net "shift"
  n_Net_layers : NoAttr K c_Net "layers"
  n_Net_out : NoAttr K c_Net "out"
  n_Net_end : NoAttr K c_Net "end"
  c_Share : Addr
  C_Share : Cls K c_Share
  gc_Share : mg "Share" = some (.ref c_Share)
  n_Share_over : NoAttr K c_Share "over"
  n_Share_under : NoAttr K c_Share "under"
  k_PRIMES : Addr
  gk_PRIMES : mg "PRIMES" = some (.ref k_PRIMES)
  tk_PRIMES : ∀ H : Hp, SqT K H k_PRIMES ([.int 2, .int 3, .int 5, .int 7, .int 11, .int 13, .int 17, .int 19, .int 23, .int 29, .int 31, .int 37, .int 41, .int 43, .int 47, .int 53, .int 59, .int 61, .int 67, .int 71, .int 73, .int 79, .int 83, .int 89, .int 97] : List V)
  a_u_wall : Addr
  d_u_wall : FuncData
  F_u_wall : Fun K "_wall" "_wall" s_u_wall a_u_wall d_u_wall
  g_u_wall : mg "_wall" = some (.ref a_u_wall)
  b_u_wall : Binds K d_u_wall ["k"] []
  a_rows_of : Addr
  d_rows_of : FuncData
  F_rows_of : Fun K "rows_of" "rows_of" s_rows_of a_rows_of d_rows_of
  g_rows_of : mg "rows_of" = some (.ref a_rows_of)
  b_rows_of : Binds K d_rows_of ["net", "letters"] []
  a_weights_behind : Addr
  d_weights_behind : FuncData
  F_weights_behind : Fun K "weights_behind" "weights_behind" s_weights_behind a_weights_behind d_weights_behind
  g_weights_behind : mg "weights_behind" = some (.ref a_weights_behind)
  b_weights_behind : Binds K d_weights_behind ["net", "letters"] []
  a_greatest_divisor : Addr
  d_greatest_divisor : FuncData
  F_greatest_divisor : Fun K "greatest_divisor" "greatest_divisor" s_greatest_divisor a_greatest_divisor d_greatest_divisor
  g_greatest_divisor : mg "greatest_divisor" = some (.ref a_greatest_divisor)
  b_greatest_divisor : Binds K d_greatest_divisor ["one", "two"] []
  a_Share___init__ : Addr
  d_Share___init__ : FuncData
  F_Share___init__ : Fun K "__init__" "Share.__init__" s_Share___init__ a_Share___init__ d_Share___init__
  b_Share___init__ : Binds K d_Share___init__ ["self", "over", "under"] []
  M_Share : Mk K c_Share a_Share___init__
  a_Share___mul__ : Addr
  d_Share___mul__ : FuncData
  F_Share___mul__ : Fun K "__mul__" "Share.__mul__" s_Share___mul__ a_Share___mul__ d_Share___mul__
  b_Share___mul__ : Binds K d_Share___mul__ ["self", "other"] []
  m_Share___mul__ : Meth K c_Share "__mul__" a_Share___mul__
  bo_Share___mul__ : BinOf K c_Share a_Share___mul__ "__mul__"
  a_next_shares : Addr
  d_next_shares : FuncData
  F_next_shares : Fun K "next_shares" "next_shares" s_next_shares a_next_shares d_next_shares
  g_next_shares : mg "next_shares" = some (.ref a_next_shares)
  b_next_shares : Binds K d_next_shares ["net", "letters"] []
  a_text_share : Addr
  d_text_share : FuncData
  F_text_share : Fun K "text_share" "text_share" s_text_share a_text_share d_text_share
  g_text_share : mg "text_share" = some (.ref a_text_share)
  b_text_share : Binds K d_text_share ["net", "prompt", "text"] []
  a_is_between : Addr
  d_is_between : FuncData
  F_is_between : Fun K "is_between" "is_between" s_is_between a_is_between d_is_between
  g_is_between : mg "is_between" = some (.ref a_is_between)
  b_is_between : Binds K d_is_between ["value", "least", "most"] []
  a_vector_of : Addr
  d_vector_of : FuncData
  F_vector_of : Fun K "vector_of" "vector_of" s_vector_of a_vector_of d_vector_of
  g_vector_of : mg "vector_of" = some (.ref a_vector_of)
  b_vector_of : Binds K d_vector_of ["numbers"] []
  a_matrix_of : Addr
  d_matrix_of : FuncData
  F_matrix_of : Fun K "matrix_of" "matrix_of" s_matrix_of a_matrix_of d_matrix_of
  g_matrix_of : mg "matrix_of" = some (.ref a_matrix_of)
  b_matrix_of : Binds K d_matrix_of ["rows"] []
  a_product_sum : Addr
  d_product_sum : FuncData
  F_product_sum : Fun K "product_sum" "product_sum" s_product_sum a_product_sum d_product_sum
  g_product_sum : mg "product_sum" = some (.ref a_product_sum)
  b_product_sum : Binds K d_product_sum ["one", "two"] []
  a_Net___init__ : Addr
  d_Net___init__ : FuncData
  F_Net___init__ : Fun K "__init__" "Net.__init__" s_Net___init__ a_Net___init__ d_Net___init__
  b_Net___init__ : Binds K d_Net___init__ ["self", "prime", "embed", "shift", "layers", "out", "end"] []
  M_Net : Mk K c_Net a_Net___init__
  a_Net_is_letter : Addr
  d_Net_is_letter : FuncData
  F_Net_is_letter : Fun K "is_letter" "Net.is_letter" s_Net_is_letter a_Net_is_letter d_Net_is_letter
  b_Net_is_letter : Binds K d_Net_is_letter ["self", "value"] []
  m_Net_is_letter : Meth K c_Net "is_letter" a_Net_is_letter
  a_Net_rest : Addr
  d_Net_rest : FuncData
  F_Net_rest : Fun K "rest" "Net.rest" s_Net_rest a_Net_rest d_Net_rest
  b_Net_rest : Binds K d_Net_rest ["self", "number"] []
  m_Net_rest : Meth K c_Net "rest" a_Net_rest
  a_Net_times : Addr
  d_Net_times : FuncData
  F_Net_times : Fun K "times" "Net.times" s_Net_times a_Net_times d_Net_times
  b_Net_times : Binds K d_Net_times ["self", "matrix", "vector"] []
  m_Net_times : Meth K c_Net "times" a_Net_times
  a_Net_plus : Addr
  d_Net_plus : FuncData
  F_Net_plus : Fun K "plus" "Net.plus" s_Net_plus a_Net_plus d_Net_plus
  b_Net_plus : Binds K d_Net_plus ["self", "one", "two"] []
  m_Net_plus : Meth K c_Net "plus" a_Net_plus
  a_Net_looked_at : Addr
  d_Net_looked_at : FuncData
  F_Net_looked_at : Fun K "looked_at" "Net.looked_at" s_Net_looked_at a_Net_looked_at d_Net_looked_at
  b_Net_looked_at : Binds K d_Net_looked_at ["self", "query", "pairs"] []
  m_Net_looked_at : Meth K c_Net "looked_at" a_Net_looked_at
  a_Net_row : Addr
  d_Net_row : FuncData
  F_Net_row : Fun K "row" "Net.row" s_Net_row a_Net_row d_Net_row
  b_Net_row : Binds K d_Net_row ["self", "rows", "letter"] []
  m_Net_row : Meth K c_Net "row" a_Net_row
  a_L_numbers : Addr
  d_L_numbers : FuncData
  F_L_numbers : Fun K "_law_numbers" "_law_numbers" s_L_numbers a_L_numbers d_L_numbers
  g_L_numbers : mg "_law_numbers" = some (.ref a_L_numbers)
  b_L_numbers : Binds K d_L_numbers ["_law_cell", "_law_at", "_law_many"] []
  a_L_same : Addr
  d_L_same : FuncData
  F_L_same : Fun K "_law_same" "_law_same" s_L_same a_L_same d_L_same
  g_L_same : mg "_law_same" = some (.ref a_L_same)
  b_L_same : Binds K d_L_same ["_law_actual", "_law_expected"] []
  a_L_vector : Addr
  d_L_vector : FuncData
  F_L_vector : Fun K "_law_vector" "_law_vector" s_L_vector a_L_vector d_L_vector
  g_L_vector : mg "_law_vector" = some (.ref a_L_vector)
  b_L_vector : Binds K d_L_vector ["_law_numbers_here", "_law_at", "_law_width", "_law_prime"] []
  a_L_net : Addr
  d_L_net : FuncData
  F_L_net : Fun K "_law_net" "_law_net" s_L_net a_L_net d_L_net
  g_L_net : mg "_law_net" = some (.ref a_L_net)
  b_L_net : Binds K d_L_net ["_law_numbers_here", "_law_letters", "_law_width", "_law_many", "_law_prime"] []
  a_L_dot : Addr
  d_L_dot : FuncData
  F_L_dot : Fun K "_law_dot" "_law_dot" s_L_dot a_L_dot d_L_dot
  g_L_dot : mg "_law_dot" = some (.ref a_L_dot)
  b_L_dot : Binds K d_L_dot ["_law_one", "_law_other", "_law_prime"] []
  a_L_times : Addr
  d_L_times : FuncData
  F_L_times : Fun K "_law_times" "_law_times" s_L_times a_L_times d_L_times
  g_L_times : mg "_law_times" = some (.ref a_L_times)
  b_L_times : Binds K d_L_times ["_law_matrix", "_law_vector_here", "_law_prime"] []
  a_L_row : Addr
  d_L_row : FuncData
  F_L_row : Fun K "_law_row" "_law_row" s_L_row a_L_row d_L_row
  g_L_row : mg "_law_row" = some (.ref a_L_row)
  b_L_row : Binds K d_L_row ["_law_net_here", "_law_rows", "_law_letter"] []
  a_L_common : Addr
  d_L_common : FuncData
  F_L_common : Fun K "_law_common" "_law_common" s_L_common a_L_common d_L_common
  g_L_common : mg "_law_common" = some (.ref a_L_common)
  b_L_common : Binds K d_L_common ["_law_one", "_law_other"] []
  a_L_least : Addr
  d_L_least : FuncData
  F_L_least : Fun K "_law_least" "_law_least" s_L_least a_L_least d_L_least
  g_L_least : mg "_law_least" = some (.ref a_L_least)
  b_L_least : Binds K d_L_least ["_law_over", "_law_under"] []
  a_L_plus : Addr
  d_L_plus : FuncData
  F_L_plus : Fun K "_law_plus" "_law_plus" s_L_plus a_L_plus d_L_plus
  g_L_plus : mg "_law_plus" = some (.ref a_L_plus)
  b_L_plus : Binds K d_L_plus ["_law_one", "_law_other"] []
  a_L_by : Addr
  d_L_by : FuncData
  F_L_by : Fun K "_law_by" "_law_by" s_L_by a_L_by d_L_by
  g_L_by : mg "_law_by" = some (.ref a_L_by)
  b_L_by : Binds K d_L_by ["_law_one", "_law_other"] []
  a_L_is_share : Addr
  d_L_is_share : FuncData
  F_L_is_share : Fun K "_law_is_share" "_law_is_share" s_L_is_share a_L_is_share d_L_is_share
  g_L_is_share : mg "_law_is_share" = some (.ref a_L_is_share)
  b_L_is_share : Binds K d_L_is_share ["_law_told", "_law_due"] []
  a_L_shares : Addr
  d_L_shares : FuncData
  F_L_shares : Fun K "_law_shares" "_law_shares" s_L_shares a_L_shares d_L_shares
  g_L_shares : mg "_law_shares" = some (.ref a_L_shares)
  b_L_shares : Binds K d_L_shares ["_law_net_here", "_law_kept", "_law_letters"] []
  a_L_text_share : Addr
  d_L_text_share : FuncData
  F_L_text_share : Fun K "_law_text_share" "_law_text_share" s_L_text_share a_L_text_share d_L_text_share
  g_L_text_share : mg "_law_text_share" = some (.ref a_L_text_share)
  b_L_text_share : Binds K d_L_text_share ["_law_net_here", "_law_kept", "_law_prompt", "_law_text"] []
  a_L_asked : Addr
  d_L_asked : FuncData
  F_L_asked : Fun K "_law_asked" "_law_asked" s_L_asked a_L_asked d_L_asked
  g_L_asked : mg "_law_asked" = some (.ref a_L_asked)
  b_L_asked : Binds K d_L_asked ["_law_told", "_law_net_here", "_law_kept", "_law_letters", "_law_prompt", "_law_text", "_law_listed"] []
  a_law : Addr
  d_law : FuncData
  F_law : Fun K "law" "law" s_law a_law d_law
  g_law : mg "law" = some (.ref a_law)
  b_law : Binds K d_law ["_law_script"] []

section
variable {P : Program} {w : World} {K : PySem.W.Frag} {mg : Str → Option Value} {base : Heap}
/-! ### nets over the heap -/
abbrev RMat (K : PySem.W.Frag) : Rep Mat := RSeq false K (RVec false K)
abbrev RPr (K : PySem.W.Frag) : Rep PairD := RPair K (RVec false K) (RVec false K)
abbrev RRow (K : PySem.W.Frag) : Rep RowD := RPair K (RSeq false K (RPr K)) (RVec false K)
theorem RMat.mono {K : PySem.W.Frag} : RMono (RMat K) := RSeq.mono RVec.mono
theorem RMat.tup {K : PySem.W.Frag} : RTup (RMat K) := RSeq.tup RVec.tup
theorem RPr.mono {K : PySem.W.Frag} : RMono (RPr K) := RPair.mono RVec.mono RVec.mono
theorem RPr.tup {K : PySem.W.Frag} : RTup (RPr K) := RPair.tup RVec.tup RVec.tup
theorem RRow.mono {K : PySem.W.Frag} : RMono (RRow K) := RPair.mono (RSeq.mono RPr.mono) RVec.mono
theorem RRow.tup {K : PySem.W.Frag} : RTup (RRow K) := RPair.tup (RSeq.tup RPr.tup) RVec.tup
/-- numbers in a list or a tuple; rows of such -/
def RVecX (K : PySem.W.Frag) : Rep (List Int) := fun H v ns => ∃ b, RVec b K H v ns
theorem RVecX.mono {K : PySem.W.Frag} : RMono (RVecX K) := fun _ _ _ _ s ⟨b, h⟩ => ⟨b, RVec.mono _ _ _ _ s h⟩
def RMatX (K : PySem.W.Frag) : Rep Mat := fun H v M => ∃ b, RSeq b K (RVecX K) H v M
theorem RMatX.mono {K : PySem.W.Frag} : RMono (RMatX K) := fun _ _ _ _ s ⟨b, h⟩ => ⟨b, RSeq.mono RVecX.mono _ _ _ _ s h⟩
def RLayX (K : PySem.W.Frag) : Rep (List (List Mat)) := fun H v Ls => ∃ b, RSeq b K (fun H v L => ∃ b', RSeq b' K (RMatX K) H v L) H v Ls
theorem RLayX.mono {K : PySem.W.Frag} : RMono (RLayX K) := fun _ _ _ _ s ⟨b, h⟩ => ⟨b, RSeq.mono (fun _ _ _ _ s ⟨b', h'⟩ => ⟨b', RSeq.mono RMatX.mono _ _ _ _ s h'⟩) _ _ _ _ s h⟩
theorem RMat.x {K : PySem.W.Frag} {H : Hp} {v : V} {M : Mat} (h : RMat K H v M) : RMatX K H v M := by
  obtain ⟨a, vs, e, h1, h2, h3⟩ := h
  exact ⟨false, a, vs, e, h1, h2, fun i y x e1 e2 => ⟨false, h3 i y x e1 e2⟩⟩
/-- a net's object -/
def netF (nd : NetD) (v1 v2 v3 v4 v5 : V) : List (Str × V) := [("prime", .int nd.p), ("embed", v1), ("shift", v2), ("layers", v3), ("out", v4), ("end", v5)]
def IsNet (K : PySem.W.Frag) (C : Addr) (H : Hp) (p : Addr) (nd : NetD) (e : V) : Prop := ∃ dx v1 v2 v3 v4, H p = some (.ins C dx (netF nd v1 v2 v3 v4 e)) ∧ RMat K H v1 nd.emb ∧ RVec false K H v2 nd.sh ∧ RSeq false K (RSeq false K (RMat K)) H v3 nd.lay ∧ RMat K H v4 nd.out
theorem IsNet.mono {K : PySem.W.Frag} {C : Addr} {H H' : Hp} {p : Addr} {nd : NetD} {e : V} (s : Same H H') (h : IsNet K C H p nd e) : IsNet K C H' p nd e := by
  obtain ⟨dx, v1, v2, v3, v4, h0, h1, h2, h3, h4⟩ := h
  exact ⟨dx, v1, v2, v3, v4, s _ _ h0, RMat.mono _ _ _ _ s h1, RVec.mono _ _ _ _ s h2, RSeq.mono (RSeq.mono RMat.mono) _ _ _ _ s h3, RMat.mono _ _ _ _ s h4⟩
theorem line_of {n : Nat} (h : n ≤ 1000000) : n < sizeLine := by rw [sizeLine_eq]; omega

/-! ### is_between -/
def sp_is_between (K : PySem.W.Frag) : Sp := fun vs H Q _ => ∃ (x : V) (a b : Int) (r : Bool), vs = [x, .int a, .int b] ∧
  ((∃ v, x = .int v ∧ r = decide (a ≤ v ∧ v ≤ b)) ∨ (r = false ∧ ∃ tn, TyX K H x (.type tn) ∧ (tn = "bool" ∨ tn = "NoneType" ∨ tn = "str" ∨ tn = "tuple" ∨ tn = "list"))) ∧ Q (.bl r) H
theorem ok_is_between (T : Txt K mg) : FnOk P w K mg base CX0 1 T.a_is_between T.d_is_between ["value", "least", "most"] (sp_is_between K) := by
  refine T.F_is_between.ok sc_is_between (fun vs H Q E h => ?_) (fun cdv A outer s H vs Q E hr h => ?_)
  · obtain ⟨_, _, _, _, rfl, _⟩ := h
    rfl
  · obtain ⟨x, a, b, r, rfl, hx, k⟩ := h
    refine ⟨_, (pss_one (ps_ret (pe_and (pe_callB (k_isi (K := K) rfl) (by rfl) T.z_isinstance (by decide +kernel) (pa_cons (pv 0) (pa_cons (pe_bltn (v := .ty "int") (by rfl) T.z_int (by decide +kernel) rfl) pa_nil))) (pe_and (pe_not (pe_callB (k_isi (K := K) rfl) (by rfl) T.z_isinstance (by decide +kernel) (pa_cons (pv 0) (pa_cons (pe_bltn (v := .ty "bool") (by rfl) T.z_bool (by decide +kernel) rfl) pa_nil)))) (pe_one (pe_chain op_le op_le (pv 1) (pv 0) (pv 2))))))), ?_⟩
    refine go_start (σ' := [some x, some (.int a), some (.int b)]) rfl ?_
    try dsimp only [cxOf, Cx.nox, Cx.wish]
    rcases hx with ⟨v, rfl, rfl⟩ | ⟨rfl, tn, ht, h5⟩
    · walk_at "go"
      refine w_isi (tn := "int") (b := true) (.base (.int _)) (by decide +kernel) ?_
      walk_at "go"
      refine w_isi (tn := "int") (b := false) (.base (.int _)) (by decide +kernel) ?_
      walk_at "go"
      refine w_iteD (fun h1 => ?_) (fun h1 => ?_)
      · walk_at "go"
        rw [show decide (v ≤ b) = decide (a ≤ v ∧ v ≤ b) by simp [h1]]
        exact k
      · walk_at "go"
        rw [show false = decide (a ≤ v ∧ v ≤ b) by simp [h1]]
        exact k
    · walk_at "go"
      rcases h5 with rfl | h5
      · refine w_isi (tn := "bool") (b := true) ht (by decide +kernel) ?_
        walk_at "go"
        refine w_isi (tn := "bool") (b := true) ht (by decide +kernel) ?_
        walk_at "go"
        exact k
      · have e : kitB tn "int" = some false := by rcases h5 with rfl | rfl | rfl | rfl <;> decide +kernel
        refine w_isi (tn := tn) (b := false) ht e ?_
        walk_at "go"
        exact k

/-! ### vectors and matrices -/
def sp_vector_of (K : PySem.W.Frag) : Sp := fun vs H Q _ => ∃ (v : V) (ns : List Int), vs = [v] ∧ RVecX K H v ns ∧ ∀ v' H', Same H H' → RVec false K H' v' ns → Q v' H'
theorem ok_vector_of (T : Txt K mg) : FnOk P w K mg base CX0 1 T.a_vector_of T.d_vector_of ["numbers"] (sp_vector_of K) := by
  refine T.F_vector_of.ok sc_vector_of (fun vs H Q E h => ?_) (fun cdv A outer s H vs Q E hr h => ?_)
  · obtain ⟨_, _, rfl, _⟩ := h
    rfl
  · obtain ⟨v, ns, rfl, ⟨b, a, rfl, hS⟩, k⟩ := h
    refine ⟨_, (pss_one (ps_ret (pe_callTy (k_tupS (K := K) rfl) (by rfl) T.z_tuple (by decide +kernel) (pa_cons (pv 0) pa_nil)))), ?_⟩
    refine go_start (σ' := [some (.ref a)]) rfl ?_
    try dsimp only [cxOf, Cx.nox, Cx.wish]
    walk_at "go"
    cases b with
    | true =>
      refine w_tupL hS fun l hl => ?_
      walk_at "go"
      exact k _ _ (Same.new hl) ⟨l, rfl, Sq.tup upd_same⟩
    | false =>
      refine w_tupT hS ?_
      walk_at "go"
      exact k _ _ (Same.refl _) ⟨a, rfl, hS⟩
def sp_matrix_of (K : PySem.W.Frag) : Sp := fun vs H Q _ => ∃ (v : V) (M : Mat), vs = [v] ∧ RMatX K H v M ∧ M.length ≤ 100000 ∧ ∀ v' H', Same H H' → RMat K H' v' M → Q v' H'
theorem ok_matrix_of (T : Txt K mg) : FnOk P w K mg base CX0 2 T.a_matrix_of T.d_matrix_of ["rows"] (sp_matrix_of K) := by
  refine T.F_matrix_of.ok sc_matrix_of (fun vs H Q E h => ?_) (fun cdv A outer s H vs Q E hr h => ?_)
  · obtain ⟨_, _, rfl, _⟩ := h
    rfl
  · obtain ⟨v, M, rfl, ⟨b, a, xs, rfl, hS, hl, hr2⟩, hz, k⟩ := h
    refine ⟨_, (pss_one (ps_ret (pe_callTy (k_tupS (K := K) rfl) (by rfl) T.z_tuple (by decide +kernel) (pa_cons (pe_lc (own := [("row", 1)]) (g := gName 1) (tt := tYes) rfl sc_matrix_of.nd (k_seqS (K := K) rfl (pv 0)) (blkOk_by (own := [("row", 1)]) (by kernel_rfl)) (fun _ _ _ _ _ => (pg_name (i := 1) sc_matrix_of.nd rfl (by first | exact Or.inl rfl | exact Or.inr rfl))) (fun _ _ _ _ _ => pts_nil) (fun _ _ _ _ _ => (pe_call (ok_vector_of T) (hr.mono (by decide)) (by rfl) T.g_vector_of T.F_vector_of.kp T.b_vector_of .nil pass0 (pa_cons (pv 1) pa_nil)))) pa_nil)))), ?_⟩
    refine go_start (σ' := [some (.ref a), none]) rfl ?_
    try dsimp only [cxOf, Cx.nox, Cx.wish]
    walk_at "go"
    refine c_rep (R := RVec false K) RVec.mono RVec.tup xs hS M (by omega) (line_of (by omega)) (fun _ => rfl) (fun i x d H1 N hi hx hd sm hN => ?_) (fun D H' ys hD sm e hly hry => ?_)
    · walk_at "go"
      exact ⟨x, d, rfl, RVecX.mono _ _ _ _ sm (hr2 i x d hx hd), fun v' H4 s4 r4 => hN v' H4 s4 r4⟩
    · walk_at "go"
      refine w_tupL (Sq.lst e) fun l hl2 => ?_
      walk_at "go"
      exact k _ _ (sm.trans (Same.new hl2)) ⟨l, ys, rfl, Sq.tup upd_same, hly, fun i y x h1 h2 => RVec.mono _ _ _ _ (Same.new hl2) (hry i y x h1 h2)⟩
def sp_product_sum (K : PySem.W.Frag) : Sp := fun vs H Q _ => ∃ (v1 v2 : V) (us ws : List Int), vs = [v1, v2] ∧ RVecX K H v1 us ∧ RVecX K H v2 ws ∧ us.length = ws.length ∧ Bd us ∧ ∀ H', Same H H' → Q (.int (dot us ws)) H'
theorem ok_product_sum (T : Txt K mg) : FnOk P w K mg base CX0 1 T.a_product_sum T.d_product_sum ["one", "two"] (sp_product_sum K) := by
  refine T.F_product_sum.ok sc_product_sum (fun vs H Q E h => ?_) (fun cdv A outer s H vs Q E hr h => ?_)
  · obtain ⟨_, _, _, _, rfl, _⟩ := h
    rfl
  · obtain ⟨v1, v2, us, ws, rfl, ⟨b1, a1, rfl, h1⟩, ⟨b2, a2, rfl, h2⟩, hl, hB, k⟩ := h
    refine ⟨_, (pss_cons (ps_set (i := 2) sc_product_sum.nd rfl (Or.inl rfl) pe_int)
      (pss_cons (ps_for PassesOwn.never rfl (k_zipS (K := K) rfl (by rfl) T.z_zip (pa_cons (pv 0) (pa_cons (pv 1) pa_nil))) (k_tup (K := K) rfl rfl (pgs_cons (pg_name (i := 3) sc_product_sum.nd rfl (Or.inl rfl)) (pgs_cons (pg_name (i := 4) sc_product_sum.nd rfl (Or.inl rfl)) pgs_nil)))
      (pss_one (ps_aug (i := 2) sc_product_sum.nd rfl (Or.inl rfl) (pe_op op_mul (pv 3) (pv 4)) ip_add)))
      (pss_one (ps_ret (pv 2))))), ?_⟩
    refine go_start (σ' := [some (.ref a1), some (.ref a2), none, none, none]) rfl ?_
    try dsimp only [cxOf, Cx.nox, Cx.wish]
    walk_at "go"
    refine l_zip (b1 := b1) (b2 := b2) (us.map V.int) (ws.map V.int) (by rw [List.length_map, List.length_map, hl]) (fun i σ H' => ∃ y3 y4, σ = [some (.ref a1), some (.ref a2), some (.int (pre (List.zipWith (· * ·) us ws) i)), y3, y4] ∧ Same H H')
      h1 h2 ⟨none, none, by rw [pre_zero]; rfl, Same.refl _⟩ (fun i σ H' _ ⟨_, _, _, sm⟩ => ⟨sm.sq h1, sm.sq h2⟩) ?_ ?_
    · rintro i x y T' σ H' hi hx hy ⟨y3, y4, rfl, sm⟩ hT
      obtain ⟨rfl, hi1⟩ := vec_at hx
      obtain ⟨rfl, hi2⟩ := vec_at hy
      refine w_pair (Sq.tup upd_same) ?_
      have hb := hB _ (nth_mem (ns := us) (i := ((i : Nat) : Int)) (by omega) (by omega))
      walk_at "go"
      have e := pre_succ (ns := List.zipWith (· * ·) us ws) (j := i) (by rw [List.length_zipWith]; omega)
      rw [nth_zip hi1 hi2] at e
      exact ⟨_, _, by rw [e]; rfl, sm.trans (Same.new hT)⟩
    · rintro σ H' ⟨y3, y4, rfl, sm⟩
      walk_at "go"
      rw [show (us.map V.int).length = (List.zipWith (· * ·) us ws).length by rw [List.length_map, List.length_zipWith, hl, Nat.min_self], pre_all]
      exact k _ sm

/-! ### the net's own methods -/
def sp_Net_rest (K : PySem.W.Frag) (C : Addr) : Sp := fun vs H Q _ => ∃ (p : Addr) (nd : NetD) (e : V) (n : Int), vs = [.ref p, .int n] ∧ IsNet K C H p nd e ∧ 0 < nd.p ∧ Q (.int (n % nd.p)) H
theorem ok_Net_rest (T : Txt K mg) : FnOk P w K mg base CX0 1 T.a_Net_rest T.d_Net_rest ["self", "number"] (sp_Net_rest K T.c_Net) := by
  refine T.F_Net_rest.ok sc_Net_rest (fun vs H Q E h => ?_) (fun cdv A outer s H vs Q E hr h => ?_)
  · obtain ⟨_, _, _, _, rfl, _⟩ := h
    rfl
  · obtain ⟨p, nd, e, n, rfl, ⟨dx, v1, v2, v3, v4, h0, _⟩, hp, k⟩ := h
    have cN := T.C_Net
    have n1 := T.n_Net_prime
    unfold netF at h0
    refine ⟨_, (pss_one (ps_ret (pe_op op_mod (pe_callTy cr_int1 (by rfl) T.z_int (by decide +kernel) (pa_cons (pv 1) pa_nil)) (k_fld (K := K) rfl (pv 0) rfl)))), ?_⟩
    refine go_start (σ' := [some (.ref p), some (.int n)]) rfl ?_
    try dsimp only [cxOf, Cx.nox, Cx.wish]
    walk_at "go"
    exact k
def sp_Net_plus (K : PySem.W.Frag) (C : Addr) : Sp := fun vs H Q _ => ∃ (p : Addr) (nd : NetD) (e v1 v2 : V) (us ws : List Int), vs = [.ref p, v1, v2] ∧ IsNet K C H p nd e ∧ 0 < nd.p ∧ RVecX K H v1 us ∧ RVecX K H v2 ws ∧ us.length = ws.length ∧ us.length ≤ 1000 ∧
  ∀ v' H', Same H H' → RVec false K H' v' (vplus nd.p us ws) → Q v' H'
theorem ok_Net_plus (T : Txt K mg) : FnOk P w K mg base CX0 2 T.a_Net_plus T.d_Net_plus ["self", "one", "two"] (sp_Net_plus K T.c_Net) := by
  refine T.F_Net_plus.ok sc_Net_plus (fun vs H Q E h => ?_) (fun cdv A outer s H vs Q E hr h => ?_)
  · obtain ⟨_, _, _, _, _, _, _, rfl, _⟩ := h
    rfl
  · obtain ⟨p, nd, e, v1, v2, us, ws, rfl, hN, hp, ⟨b1, a1, rfl, h1⟩, ⟨b2, a2, rfl, h2⟩, hl, hz, k⟩ := h
    obtain ⟨dx, _, _, _, _, h0, _⟩ := id hN
    unfold netF at h0
    refine ⟨_, (pss_one (ps_ret (pe_callTy (k_tupS (K := K) rfl) (by rfl) T.z_tuple (by decide +kernel) (pa_cons (pe_lc (own := [("number", 3), ("other", 4)]) (g := gTup K 2 (gCons (gName 3) (gCons (gName 4) (gNil)))) (tt := tYes) rfl sc_Net_plus.nd (k_zipS (K := K) rfl (by rfl) T.z_zip (pa_cons (pv 1) (pa_cons (pv 2) pa_nil))) (blkOk_by (own := [("number", 3), ("other", 4)]) (by kernel_rfl)) (fun _ _ _ _ _ => (k_tup (K := K) rfl rfl (pgs_cons (pg_name (i := 3) sc_Net_plus.nd rfl (by first | exact Or.inl rfl | exact Or.inr rfl)) (pgs_cons (pg_name (i := 4) sc_Net_plus.nd rfl (by first | exact Or.inl rfl | exact Or.inr rfl)) pgs_nil)))) (fun _ _ _ _ _ => pts_nil) (fun _ _ _ _ _ => (pe_meth (pv 0) T.C_Net T.m_Net_rest (ok_Net_rest T) (hr.mono (by decide)) T.b_Net_rest .nil pass0 (pa_cons (pe_op (k_addG (K := K) rfl) (pv 3) (pv 4)) pa_nil)))) pa_nil)))), ?_⟩
    refine go_start (σ' := [some (.ref p), some (.ref a1), some (.ref a2), none, none]) rfl ?_
    try dsimp only [cxOf, Cx.nox, Cx.wish]
    walk_at "go"
    refine c_intsZ (us.map V.int) (ws.map V.int) (by rw [List.length_map, List.length_map, hl]) h1 h2 (vplus nd.p us ws) (by rw [vplus_len hl, List.length_map]) (line_of (by rw [List.length_map]; omega)) rfl (fun _ _ => rfl) (fun i x y H1 N hi hx hy sm hN2 => ?_) (fun D H' hD sm e2 => ?_)
    · obtain ⟨rfl, hi1⟩ := vec_at hx
      obtain ⟨rfl, hi2⟩ := vec_at hy
      walk_at "go"
      refine ⟨p, nd, e, _, rfl, hN.mono sm, hp, ?_⟩
      have en : nth (vplus nd.p us ws) ((i : Nat) : Int) = (nth us (i : Nat) + nth ws (i : Nat)) % nd.p := nth_zip hi1 hi2
      rw [← en]
      exact hN2 _ (Same.refl _)
    · walk_at "go"
      refine w_tupL (Sq.lst e2) fun l hl2 => ?_
      walk_at "go"
      exact k _ _ (sm.trans (Same.new hl2)) ⟨l, rfl, Sq.tup upd_same⟩
def sp_Net_times (K : PySem.W.Frag) (C : Addr) : Sp := fun vs H Q _ => ∃ (p : Addr) (nd : NetD) (e v1 v2 : V) (M : Mat) (x : List Int), vs = [.ref p, v1, v2] ∧ IsNet K C H p nd e ∧ 0 < nd.p ∧ RMat K H v1 M ∧ RVecX K H v2 x ∧ (∀ r ∈ M, r.length = x.length ∧ Bd r) ∧ M.length ≤ 1000 ∧
  ∀ v' H', Same H H' → RVec false K H' v' (vtimes nd.p M x) → Q v' H'
theorem ok_Net_times (T : Txt K mg) : FnOk P w K mg base CX0 2 T.a_Net_times T.d_Net_times ["self", "matrix", "vector"] (sp_Net_times K T.c_Net) := by
  refine T.F_Net_times.ok sc_Net_times (fun vs H Q E h => ?_) (fun cdv A outer s H vs Q E hr h => ?_)
  · obtain ⟨_, _, _, _, _, _, _, rfl, _⟩ := h
    rfl
  · obtain ⟨p, nd, e, v1, v2, M, x, rfl, hN, hp, ⟨a1, xs, rfl, h1, hl1, hr1⟩, hx, hM, hz, k⟩ := h
    obtain ⟨dx, _, _, _, _, h0, _⟩ := id hN
    unfold netF at h0
    refine ⟨_, (pss_one (ps_ret (pe_callTy (k_tupS (K := K) rfl) (by rfl) T.z_tuple (by decide +kernel) (pa_cons (pe_lc (own := [("row", 3)]) (g := gName 3) (tt := tYes) rfl sc_Net_times.nd (k_seqS (K := K) rfl (pv 1)) (blkOk_by (own := [("row", 3)]) (by kernel_rfl)) (fun _ _ _ _ _ => (pg_name (i := 3) sc_Net_times.nd rfl (by first | exact Or.inl rfl | exact Or.inr rfl))) (fun _ _ _ _ _ => pts_nil) (fun _ _ _ _ _ => (pe_meth (pv 0) T.C_Net T.m_Net_rest (ok_Net_rest T) (hr.mono (by decide)) T.b_Net_rest .nil pass0 (pa_cons (pe_call (ok_product_sum T) (hr.mono (by decide)) (by rfl) T.g_product_sum T.F_product_sum.kp T.b_product_sum .nil pass0 (pa_cons (pv 3) (pa_cons (pv 2) pa_nil))) pa_nil)))) pa_nil)))), ?_⟩
    refine go_start (σ' := [some (.ref p), some (.ref a1), some v2, none]) rfl ?_
    try dsimp only [cxOf, Cx.nox, Cx.wish]
    walk_at "go"
    refine c_ints xs h1 (vtimes nd.p M x) (by rw [vtimes_len, hl1]) (line_of (by omega)) (fun _ => rfl) (fun i y H1 N hi hy sm hN2 => ?_) (fun D H' hD sm e2 => ?_)
    · have hd : M[i]? = some (M[i]'(by omega)) := List.getElem?_eq_getElem (by omega)
      obtain ⟨hm1, hm2⟩ := hM _ (List.mem_of_getElem? hd)
      walk_at "go"
      refine ⟨_, _, _, x, rfl, ⟨false, RVec.mono _ _ _ _ sm (hr1 i y _ hy hd)⟩, RVecX.mono _ _ _ _ sm hx, hm1, hm2, fun H2 s2 => ?_⟩
      refine ⟨p, nd, e, _, rfl, (hN.mono sm).mono s2, hp, ?_⟩
      rw [← nth_mapG (f := fun r => dot r x % nd.p) hd]
      exact hN2 _ s2
    · walk_at "go"
      refine w_tupL (Sq.lst e2) fun l hl2 => ?_
      walk_at "go"
      exact k _ _ (sm.trans (Same.new hl2)) ⟨l, rfl, Sq.tup upd_same⟩
def sp_Net_looked_at (K : PySem.W.Frag) (C : Addr) : Sp := fun vs H Q _ => ∃ (p : Addr) (nd : NetD) (e v1 v2 : V) (q : List Int) (prs : List PairD) (b : Bool), vs = [.ref p, v1, v2] ∧ IsNet K C H p nd e ∧ 0 < nd.p ∧ RVec false K H v1 q ∧ RSeq b K (RPr K) H v2 prs ∧ Bd q ∧ q.length ≤ 1000 ∧ prs.length ≤ 100000 ∧
  (∀ o ∈ prs, o.1.length = q.length ∧ o.2.length = q.length ∧ Bd o.2) ∧ ∀ v' H', Same H H' → RVec false K H' v' (looked nd.p q prs (zeros q)) → Q v' H'
theorem looked_take {p : Int} {q : List Int} {prs : List PairD} {f : List Int} {i : Nat} {o : PairD} (h : prs[i]? = some o) : looked p q (prs.take (i + 1)) f = vplus p (looked p q (prs.take i) f) (o.2.map fun n => dot q o.1 * n) := by
  unfold looked
  rw [List.take_add_one, h, List.foldl_append]
  rfl
theorem ok_Net_looked_at (T : Txt K mg) : FnOk P w K mg base CX0 3 T.a_Net_looked_at T.d_Net_looked_at ["self", "query", "pairs"] (sp_Net_looked_at K T.c_Net) := by
  refine T.F_Net_looked_at.ok sc_Net_looked_at (fun vs H Q E h => ?_) (fun cdv A outer s H vs Q E hr h => ?_)
  · obtain ⟨_, _, _, _, _, _, _, _, rfl, _⟩ := h
    rfl
  · obtain ⟨p, nd, e, v1, v2, q, prs, b, rfl, hN, hp, ⟨a1, rfl, h1⟩, ⟨a2, ys, rfl, h2, hl2, hr2⟩, hB, hz, hz2, ho, k⟩ := h
    refine ⟨_, (pss_cons (ps_set (i := 3) sc_Net_looked_at.nd rfl (Or.inl rfl) (pe_callTy (k_tupS (K := K) rfl) (by rfl) T.z_tuple (by decide +kernel) (pa_cons (pe_lc (own := [("_", 7)]) (g := gName 7) (tt := tYes) rfl sc_Net_looked_at.nd (k_seqS (K := K) rfl (pv 1)) (blkOk_by (own := [("_", 7)]) (by kernel_rfl)) (fun _ _ _ _ _ => (pg_name (i := 7) sc_Net_looked_at.nd rfl (by first | exact Or.inl rfl | exact Or.inr rfl))) (fun _ _ _ _ _ => pts_nil) (fun _ _ _ _ _ => pe_int)) pa_nil)))
      (pss_cons (ps_for PassesOwn.never rfl (k_seqS (K := K) rfl (pv 2)) (k_tup (K := K) rfl rfl (pgs_cons (pg_name (i := 4) sc_Net_looked_at.nd rfl (Or.inl rfl)) (pgs_cons (pg_name (i := 5) sc_Net_looked_at.nd rfl (Or.inl rfl)) pgs_nil)))
      (pss_cons (ps_set (i := 6) sc_Net_looked_at.nd rfl (Or.inr rfl) (pe_call (ok_product_sum T) (hr.mono (by decide)) (by rfl) T.g_product_sum T.F_product_sum.kp T.b_product_sum .nil pass0 (pa_cons (pv 1) (pa_cons (pv 4) pa_nil))))
      (pss_one (ps_set (i := 3) sc_Net_looked_at.nd rfl (Or.inl rfl) (pe_meth (pv 0) T.C_Net T.m_Net_plus (ok_Net_plus T) (hr.mono (by decide)) T.b_Net_plus .nil pass0 (pa_cons (pv 3) (pa_cons (pe_lc (own := [("number", 8)]) (g := gName 8) (tt := tYes) rfl sc_Net_looked_at.nd (k_seqS (K := K) rfl (pv 5)) (blkOk_by (own := [("number", 8)]) (by kernel_rfl)) (fun _ _ _ _ _ => (pg_name (i := 8) sc_Net_looked_at.nd rfl (by first | exact Or.inl rfl | exact Or.inr rfl))) (fun _ _ _ _ _ => pts_nil) (fun _ _ _ _ _ => (pe_op op_mul (pv 6) (pv 8)))) pa_nil)))))))
      (pss_one (ps_ret (pv 3))))), ?_⟩
    refine go_start (σ' := [some (.ref p), some (.ref a1), some (.ref a2), none, none, none, none, none, none]) rfl ?_
    try dsimp only [cxOf, Cx.nox, Cx.wish]
    walk_at "go"
    refine c_ints (q.map V.int) h1 (zeros q) (by rw [zeros_len, List.length_map]) (line_of (by rw [List.length_map]; omega)) (fun _ => rfl) (fun i y H1 N hi hy sm hN2 => ?_) (fun D H1 hD s1 e2 => ?_)
    · rw [List.length_map] at hi
      walk_at "go"
      have ez : nth (zeros q) ((i : Nat) : Int) = 0 := nth_map hi
      rw [← ez]
      exact hN2 _ (Same.refl _)
    walk_at "go"
    refine w_tupL (Sq.lst e2) fun l hl => ?_
    have s2 : Same H (upd H1 l (.tup ((zeros q).map V.int))) := s1.trans (Same.new hl)
    walk_at "go"
    refine l_seq (b := b) ys (fun i σ H' => ∃ (f : Addr) (y4 y5 y6 y7 y8 : Option V), σ = [some (.ref p), some (.ref a1), some (.ref a2), some (.ref f), y4, y5, y6, y7, y8] ∧ Sq false K H' f ((looked nd.p q (prs.take i) (zeros q)).map V.int) ∧ Same H H')
      (s2.sq h2) ⟨l, none, none, none, none, none, rfl, Sq.tup upd_same, s2⟩ (fun i σ H' _ ⟨_, _, _, _, _, _, _, _, sm⟩ => sm.sq h2) ?_ ?_
    · rintro i y σ H' hi hy ⟨f, y4, y5, y6, y7, y8, rfl, hf, sm⟩
      have hd : prs[i]? = some (prs[i]'(by omega)) := List.getElem?_eq_getElem (by omega)
      generalize prs[i]'(by omega) = o at hd
      obtain ⟨ho1, ho2, ho3⟩ := ho o (List.mem_of_getElem? hd)
      obtain ⟨ap, k1, k2, rfl, hp2, ⟨ak, rfl, hk⟩, ⟨av, rfl, hv⟩⟩ := RPr.mono _ _ _ _ sm (hr2 i y o hy hd)
      refine w_pair hp2 ?_
      walk_at "go"
      refine ⟨_, _, q, o.1, rfl, ⟨false, a1, rfl, sm.sq h1⟩, ⟨false, ak, rfl, hk⟩, ho1.symm, hB, fun H3 s3 => ?_⟩
      walk_at "go"
      obtain ⟨dx, _, _, _, _, h0, _⟩ := id ((hN.mono sm).mono s3)
      unfold netF at h0
      walk_at "go"
      refine c_ints (o.2.map V.int) (s3.sq hv) (o.2.map fun n => dot q o.1 * n) (by rw [List.length_map, List.length_map]) (line_of (by rw [List.length_map]; omega)) (fun _ => rfl) (fun j z H4 N hj hz4 s4 hN2 => ?_) (fun D4 H4 hD4 s4 e4 => ?_)
      · obtain ⟨rfl, hj1⟩ := vec_at hz4
        have hb := ho3 _ (nth_mem (ns := o.2) (i := ((j : Nat) : Int)) (by omega) (by omega))
        walk_at "go"
        rw [← nth_map (f := fun n => dot q o.1 * n) hj1]
        exact hN2 _ (Same.refl _)
      · have hll : (looked nd.p q (prs.take i) (zeros q)).length = q.length := by
          rw [looked_len, zeros_len]
          intro kv hk2
          rw [zeros_len]
          exact (ho kv (List.mem_of_mem_take hk2)).2.1
        walk_at "go"
        refine ⟨p, nd, e, _, _, _, _, rfl, ((hN.mono sm).mono s3).mono s4, hp, ⟨false, f, rfl, s4.sq (s3.sq hf)⟩, ⟨true, D4, rfl, Sq.lst e4⟩, by rw [hll, List.length_map, ho2], by omega, fun v' H5 s5 ⟨f5, e5, hf5⟩ => ?_⟩
        subst e5
        walk_at "go"
        refine ⟨f5, _, _, _, _, _, rfl, ?_, ((sm.trans s3).trans s4).trans s5⟩
        rw [looked_take hd]
        exact hf5
    · rintro σ H' ⟨f, y4, y5, y6, y7, y8, rfl, hf, sm⟩
      walk_at "go"
      refine k _ _ sm ⟨f, rfl, ?_⟩
      rw [show ys.length = prs.length from hl2, List.take_length] at hf
      exact hf
def sp_Net_is_letter (K : PySem.W.Frag) (C : Addr) : Sp := fun vs H Q _ => ∃ (p : Addr) (nd : NetD) (e : V) (l : Int), vs = [.ref p, .int l] ∧ IsNet K C H p nd e ∧ Q (.bl (decide (0 ≤ l ∧ l ≤ (nd.emb.length : Int) - 1))) H
theorem ok_Net_is_letter (T : Txt K mg) : FnOk P w K mg base CX0 2 T.a_Net_is_letter T.d_Net_is_letter ["self", "value"] (sp_Net_is_letter K T.c_Net) := by
  refine T.F_Net_is_letter.ok sc_Net_is_letter (fun vs H Q E h => ?_) (fun cdv A outer s H vs Q E hr h => ?_)
  · obtain ⟨_, _, _, _, rfl, _⟩ := h
    rfl
  · obtain ⟨p, nd, e, l, rfl, ⟨dx, v1, v2, v3, v4, h0, ⟨a1, xs, rfl, h1, hl1, _⟩, _⟩, k⟩ := h
    have cN := T.C_Net
    have n1 := T.n_Net_embed
    unfold netF at h0
    refine ⟨_, (pss_one (ps_ret (pe_call (ok_is_between T) (hr.mono (by decide)) (by rfl) T.g_is_between T.F_is_between.kp T.b_is_between .nil pass0 (pa_cons (pv 1) (pa_cons pe_int (pa_cons (pe_op op_sub (pe_callB (k_lenS (K := K) rfl) (by rfl) T.z_len (by decide +kernel) (pa_cons (k_fld (K := K) rfl (pv 0) rfl) pa_nil)) pe_int) pa_nil)))))), ?_⟩
    refine go_start (σ' := [some (.ref p), some (.int l)]) rfl ?_
    try dsimp only [cxOf, Cx.nox, Cx.wish]
    walk_at "go"
    exact ⟨_, _, _, _, rfl, .inl ⟨l, rfl, rfl⟩, by rw [hl1]; exact k⟩

/-! ### a row -/
theorem five_of {L : List Mat} (h : L.length = 5) : L = [mt L 0, mt L 1, mt L 2, mt L 3, mt L 4] := by
  match L, h with
  | [a, b, c, d, e], _ => rfl
theorem mat_bd {p : Int} {w : Nat} {M : Mat} (hp : p ≤ 97) (h : MatOk p w M) {x : List Int} (hx : x.length = w) : ∀ r ∈ M, r.length = x.length ∧ Bd r := fun r hr => ⟨by rw [(h r hr).1, hx], (h r hr).2.bd hp⟩
def sp_Net_row (K : PySem.W.Frag) (C : Addr) : Sp := fun vs H Q _ => ∃ (p : Addr) (nd : NetD) (e v : V) (b : Bool) (rows : List RowD) (l w : Nat), vs = [.ref p, v, .int (l : Nat)] ∧ IsNet K C H p nd e ∧ NetOk nd w ∧ RSeq b K (RRow K) H v rows ∧ (∀ r ∈ rows, RowOk nd w r) ∧ rows.length ≤ 1000 ∧ l < nd.emb.length ∧
  ∀ v' H', Same H H' → RRow K H' v' (rowD nd rows l) → Q v' H'
theorem ok_Net_row (T : Txt K mg) : FnOk P w K mg base CX0 4 T.a_Net_row T.d_Net_row ["self", "rows", "letter"] (sp_Net_row K T.c_Net) := by
  refine T.F_Net_row.ok sc_Net_row (fun vs H Q E h => ?_) (fun cdv A outer s H vs Q E hr h => ?_)
  · obtain ⟨_, _, _, _, _, _, _, _, rfl, _⟩ := h
    rfl
  · obtain ⟨p, nd, e, v, b, rows, l, wd, rfl, hN, ok, ⟨ar, rvs, rfl, hR, hRl, hRr⟩, hro, hrz, hl, k⟩ := h
    have cN := T.C_Net
    have n1 := T.n_Net_embed
    have n2 := T.n_Net_shift
    have n3 := T.n_Net_layers
    have n4 := T.n_Net_out
    have hp0 : 0 < nd.p := by have := ok.p2; omega
    have w4 := ok.w4
    obtain ⟨dx, v1, v2, v3, v4, h0, hE, ⟨ash, rfl, hSh⟩, hLay, hOut⟩ := id hN
    obtain ⟨ae, evs, rfl, hE1, hEl, hEr⟩ := hE
    obtain ⟨al, lvs, rfl, hL1, hLl, hLr⟩ := hLay
    obtain ⟨ao, ovs, rfl, hO1, hOl, hOr⟩ := hOut
    unfold netF at h0
    refine ⟨_, (pss_cons (ps_if (pt_not (k_tru (K := K) rfl (pe_meth (pv 0) T.C_Net T.m_Net_is_letter (ok_Net_is_letter T) (hr.mono (by decide)) T.b_Net_is_letter .nil pass0 (pa_cons (pv 2) pa_nil)) (by intro _; rfl))) (pss_one ps_never) pss_nil)
      (pss_cons (ps_set (i := 3) sc_Net_row.nd rfl (Or.inr rfl) (pe_meth (pv 0) T.C_Net T.m_Net_plus (ok_Net_plus T) (hr.mono (by decide)) T.b_Net_plus .nil pass0 (pa_cons (pe_ix (k_ix (K := K) rfl) (k_fld (K := K) rfl (pv 0) rfl) (pv 2) (fun _ _ => rfl)) (pa_cons (pe_lc (own := [("number", 15)]) (g := gName 15) (tt := tYes) rfl sc_Net_row.nd (k_seqS (K := K) rfl (k_fld (K := K) rfl (pv 0) rfl)) (blkOk_by (own := [("number", 15)]) (by kernel_rfl)) (fun _ _ _ _ _ => (pg_name (i := 15) sc_Net_row.nd rfl (by first | exact Or.inl rfl | exact Or.inr rfl))) (fun _ _ _ _ _ => pts_nil) (fun _ _ _ _ _ => (pe_op op_mul (pe_callB (k_lenS (K := K) rfl) (by rfl) T.z_len (by decide +kernel) (pa_cons (pv 1) pa_nil)) (pv 15)))) pa_nil))))
      (pss_cons (ps_set (i := 4) sc_Net_row.nd rfl (Or.inl rfl) (pe_lst pa_nil))
      (pss_cons (ps_for PassesOwn.never rfl (k_enumS (K := K) rfl (by rfl) T.z_enumerate (pa_cons (k_fld (K := K) rfl (pv 0) rfl) pa_nil)) (k_tup (K := K) rfl rfl (pgs_cons (pg_name (i := 5) sc_Net_row.nd rfl (Or.inr rfl)) (pgs_cons (k_tup (K := K) rfl rfl (pgs_cons (pg_name (i := 6) sc_Net_row.nd rfl (Or.inl rfl)) (pgs_cons (pg_name (i := 7) sc_Net_row.nd rfl (Or.inl rfl)) (pgs_cons (pg_name (i := 8) sc_Net_row.nd rfl (Or.inl rfl)) (pgs_cons (pg_name (i := 9) sc_Net_row.nd rfl (Or.inl rfl)) (pgs_cons (pg_name (i := 10) sc_Net_row.nd rfl (Or.inl rfl)) pgs_nil)))))) pgs_nil)))
      (pss_cons (ps_set (i := 11) sc_Net_row.nd rfl (Or.inl rfl) (pe_tup (pa_cons (pe_meth (pv 0) T.C_Net T.m_Net_times (ok_Net_times T) (hr.mono (by decide)) T.b_Net_times .nil pass0 (pa_cons (pv 7) (pa_cons (pv 3) pa_nil))) (pa_cons (pe_meth (pv 0) T.C_Net T.m_Net_times (ok_Net_times T) (hr.mono (by decide)) T.b_Net_times .nil pass0 (pa_cons (pv 8) (pa_cons (pv 3) pa_nil))) pa_nil))))
      (pss_cons (ps_set (i := 12) sc_Net_row.nd rfl (Or.inl rfl) (pe_op (k_addG (K := K) rfl) (pe_lc (own := [("row", 16)]) (g := gName 16) (tt := tYes) rfl sc_Net_row.nd (k_seqS (K := K) rfl (pv 1)) (blkOk_by (own := [("row", 16)]) (by kernel_rfl)) (fun _ _ _ _ _ => (pg_name (i := 16) sc_Net_row.nd rfl (by first | exact Or.inl rfl | exact Or.inr rfl))) (fun _ _ _ _ _ => pts_nil) (fun _ _ _ _ _ => (pe_ix (k_ix (K := K) rfl) (pe_ix (k_ix (K := K) rfl) (pv 16) pe_int (fun _ _ => rfl)) (pv 5) (fun _ _ => rfl)))) (pe_lst (pa_cons (pv 11) pa_nil))))
      (pss_cons (ps_set (i := 3) sc_Net_row.nd rfl (Or.inr rfl) (pe_meth (pv 0) T.C_Net T.m_Net_plus (ok_Net_plus T) (hr.mono (by decide)) T.b_Net_plus .nil pass0 (pa_cons (pv 3) (pa_cons (pe_meth (pv 0) T.C_Net T.m_Net_looked_at (ok_Net_looked_at T) (hr.mono (by decide)) T.b_Net_looked_at .nil pass0 (pa_cons (pe_meth (pv 0) T.C_Net T.m_Net_times (ok_Net_times T) (hr.mono (by decide)) T.b_Net_times .nil pass0 (pa_cons (pv 6) (pa_cons (pv 3) pa_nil))) (pa_cons (pv 12) pa_nil))) pa_nil))))
      (pss_cons (ps_set (i := 3) sc_Net_row.nd rfl (Or.inr rfl) (pe_meth (pv 0) T.C_Net T.m_Net_plus (ok_Net_plus T) (hr.mono (by decide)) T.b_Net_plus .nil pass0 (pa_cons (pv 3) (pa_cons (pe_meth (pv 0) T.C_Net T.m_Net_times (ok_Net_times T) (hr.mono (by decide)) T.b_Net_times .nil pass0 (pa_cons (pv 10) (pa_cons (pe_lc (own := [("number", 15)]) (g := gName 15) (tt := tYes) rfl sc_Net_row.nd (k_seqS (K := K) rfl (pe_meth (pv 0) T.C_Net T.m_Net_times (ok_Net_times T) (hr.mono (by decide)) T.b_Net_times .nil pass0 (pa_cons (pv 9) (pa_cons (pv 3) pa_nil)))) (blkOk_by (own := [("number", 15)]) (by kernel_rfl)) (fun _ _ _ _ _ => (pg_name (i := 15) sc_Net_row.nd rfl (by first | exact Or.inl rfl | exact Or.inr rfl))) (fun _ _ _ _ _ => pts_nil) (fun _ _ _ _ _ => (pe_op op_mul (pv 15) (pv 15)))) pa_nil))) pa_nil))))
      (pss_one (ps_expr (k_bm (K := K) rfl PySem.F.plainAttrs_list PySem.F.slot_list_append PySem.F.type_list_append mt_append (pv 4) (pa_cons (pv 11) pa_nil)))))))))
      (pss_cons (ps_setLc (i := 13) (own := [("vector", 14)]) (g := gName 14) (tt := tYes) rfl sc_Net_row.nd rfl rfl (sw_true rfl rfl rfl (by decide +kernel)) (k_seqS (K := K) rfl (k_fld (K := K) rfl (pv 0) rfl)) (blkOk_by (own := [("vector", 14)]) (by kernel_rfl)) (fun _ _ _ _ _ => (pg_name (i := 14) sc_Net_row.nd rfl (by first | exact Or.inl rfl | exact Or.inr rfl))) (fun _ _ _ _ _ => pts_nil) (fun _ _ _ _ _ => (pe_op (k_addG (K := K) rfl) pe_int (pe_meth (pv 0) T.C_Net T.m_Net_rest (ok_Net_rest T) (hr.mono (by decide)) T.b_Net_rest .nil pass0 (pa_cons (pe_call (ok_product_sum T) (hr.mono (by decide)) (by rfl) T.g_product_sum T.F_product_sum.kp T.b_product_sum .nil pass0 (pa_cons (pv 14) (pa_cons (pv 3) pa_nil))) pa_nil)))))
      (pss_one (ps_ret (pe_tup (pa_cons (pe_callTy (k_tupS (K := K) rfl) (by rfl) T.z_tuple (by decide +kernel) (pa_cons (pv 4) pa_nil)) (pa_cons (pe_callTy (k_tupS (K := K) rfl) (by rfl) T.z_tuple (by decide +kernel) (pa_cons (pv 13) pa_nil)) pa_nil)))))))))), ?_⟩
    refine go_start (σ' := [some (.ref p), some (.ref ar), some (.int (l : Nat)), none, none, none, none, none, none, none, none, none, none, none, none, none, none]) rfl ?_
    walk_at "go"
    refine ⟨p, nd, e, _, rfl, hN, ?_⟩
    walk_at "go"
    refine w_iteN (fun hc => absurd (show 0 ≤ ((l : Nat) : Int) ∧ ((l : Nat) : Int) ≤ (nd.emb.length : Int) - 1 by omega) hc) (fun _ => ?_)
    walk_at "go"
    have hel : nd.emb[l]? = some (nd.emb.getD l []) := by
      rw [List.getD_eq_getElem?_getD, List.getElem?_eq_getElem hl]
      rfl
    obtain ⟨ye, hye, ⟨aye, rfl, hye2⟩⟩ := RSeq.get hEl hEr hel
    have hew : (nd.emb.getD l []).length = wd := (ok.emb _ (List.mem_of_getElem? hel)).1
    refine w_ix hE1 (atI_nat hye) ?_
    walk_at "go"
    refine c_ints (nd.sh.map V.int) hSh (nd.sh.map fun n => (rows.length : Int) * n) (by rw [List.length_map, List.length_map]) (line_of (by rw [List.length_map, ok.sh.1]; omega)) (fun _ => rfl) (fun i y H1 N hi hy sm hN2 => ?_) (fun D H1 hD s1 e1 => ?_)
    · obtain ⟨rfl, hi1⟩ := vec_at hy
      have hb := ok.sh.2.bd ok.p97 _ (nth_mem (ns := nd.sh) (i := ((i : Nat) : Int)) (by omega) (by omega))
      walk_at "go"
      rw [hRl, ← nth_map (f := fun n => (rows.length : Int) * n) hi1]
      exact hN2 _ (Same.refl _)
    walk_at "go"
    refine ⟨p, nd, e, _, _, _, _, rfl, hN.mono s1, hp0, ⟨false, aye, rfl, s1.sq hye2⟩, ⟨true, D, rfl, Sq.lst e1⟩, by rw [hew, List.length_map, ok.sh.1], by omega, fun v' H2 s2 ⟨ax, ev, hx⟩ => ?_⟩
    subst ev
    walk_at "go"
    refine ⟨Nat.zero_le _, fun ol hol => ?_⟩
    have s12 := s1.trans s2
    have hx0 := startX_ok ok (rows := rows) hl
    have hxs : startX nd rows l = vplus nd.p (nd.emb.getD l []) (nd.sh.map fun n => (rows.length : Int) * n) := rfl
    walk_at "go"
    refine l_enum (b := false) lvs (fun i σ H' => ∃ (ax : Addr) (y5 y6 y7 y8 y9 y10 y11 y12 y13 y14 y15 y16 : Option V), σ = [some (.ref p), some (.ref ar), some (.int (l : Nat)), some (.ref ax), some (.ref ol), y5, y6, y7, y8, y9, y10, y11, y12, y13, y14, y15, y16] ∧
        RVec false K H' (.ref ax) (rowSt nd rows (startX nd rows l) i).2 ∧ Filled (RPr K) H2 H' ol (rowSt nd rows (startX nd rows l) i).1)
      ((s12.trans (Same.new hol)).sq hL1) ⟨ax, none, none, none, none, none, none, none, none, none, none, none, none, rfl, RVec.mono _ _ _ _ (Same.new hol) ⟨ax, rfl, by rw [show (rowSt nd rows (startX nd rows l) 0).2 = startX nd rows l from rfl, hxs]; exact hx⟩, Filled.nil hol⟩ ?_ ?_ ?_
    · rintro i σ H' hi ⟨_, _, _, _, _, _, _, _, _, _, _, _, _, _, _, f⟩
      exact (s12.trans f.same).sq hL1
    · rintro i y T' σ H' hi hy ⟨ax, y5, y6, y7, y8, y9, y10, y11, y12, y13, y14, y15, y16, rfl, hxv, f⟩ hT
      have hi' : i < nd.lay.length := by omega
      have hL : nd.lay[i]? = some (nd.lay.getD i []) := by
        rw [List.getD_eq_getElem?_getD, List.getElem?_eq_getElem hi']
        rfl
      generalize eL : nd.lay.getD i [] = L at hL
      obtain ⟨hL5, hLm⟩ := ok.lay L (List.mem_of_getElem? hL)
      obtain ⟨st1, st2, st3, st4⟩ := rowSt_ok ok hro hx0 i (by omega)
      generalize ex : (rowSt nd rows (startX nd rows l) i).2 = x at hxv st3 st4
      have sT : Same H' (upd H' T' (.tup [.int (i : Int), y])) := Same.new hT
      have f := f.mono RPr.mono sT
      have hxv := RVec.mono _ _ _ _ sT hxv
      have s3 := s12.trans f.same
      have hy5 := RSeq.mono RMat.mono _ _ _ _ s3 (hLr i y L hy hL)
      rw [five_of hL5] at hy5
      obtain ⟨a5, q0, q1, q2, q3, q4, rfl, h5, m0, m1, m2, m3, m4⟩ := RSeq.five hy5
      refine w_pairG (Sq.tup upd_same) ?_
      refine w_five h5 ?_
      have hM : ∀ j : Nat, j < 5 → (mt L j).length = wd ∧ MatOk nd.p wd (mt L j) := fun j hj => (mt_ok ⟨hL5, hLm⟩ hj).2
      have p97 := ok.p97
      -- pair
      walk_at "go"
      refine ⟨p, nd, e, _, _, _, x, rfl, hN.mono s3, hp0, m1, ⟨false, hxv⟩, mat_bd p97 (hM 1 (by omega)).2 st3, by rw [(hM 1 (by omega)).1]; omega, fun vk H4 s4 rk => ?_⟩
      walk_at "go"
      refine ⟨p, nd, e, _, _, _, x, rfl, (hN.mono s3).mono s4, hp0, RMat.mono _ _ _ _ s4 m2, ⟨false, RVec.mono _ _ _ _ s4 hxv⟩, mat_bd p97 (hM 2 (by omega)).2 st3, by rw [(hM 2 (by omega)).1]; omega, fun vv H5 s5 rv => ?_⟩
      walk_at "go"
      refine ⟨(by show 2 ≤ sizeLine; decide), fun ap hap => ?_⟩
      walk_at "go"
      have s6 : Same H5 (upd H5 ap (.tup [vk, vv])) := Same.new hap
      have hpair : RPr K (upd H5 ap (.tup [vk, vv])) (.ref ap) (pairOf nd.p L x) := ⟨ap, vk, vv, rfl, Sq.tup upd_same, RVec.mono _ _ _ _ (s5.trans s6) rk, RVec.mono _ _ _ _ s6 rv⟩
      have s36 := (s4.trans s5).trans s6
      generalize upd H5 ap (.tup [vk, vv]) = H6 at s6 hpair s36 ⊢
      have f6 := f.mono RPr.mono s36
      have s06 := s3.trans s36
      -- pairs
      refine c_rep (R := RPr K) RPr.mono RPr.tup rvs (s06.sq hR) (prsAt rows i) (by unfold prsAt; rw [List.length_map, hRl]) (line_of (by omega)) (fun _ => rfl) (fun j z d H7 N hj hz hd s7 hN2 => ?_) (fun D7 H7 ys hD7 s7 e7 hyl hyr => ?_)
      · have hrj : rows[j]? = some (rows[j]'(by omega)) := List.getElem?_eq_getElem (by omega)
        generalize rows[j]'(by omega) = r at hrj
        have ed : d = r.1.getD i ([], []) := by
          unfold prsAt at hd
          rw [List.getElem?_map, hrj] at hd
          exact (Option.some.inj hd).symm
        obtain ⟨az, z1, z2, rfl, hz1, ⟨ap1, pvs, rfl, hp1, hpl, hpr⟩, _⟩ := RRow.mono _ _ _ _ (s06.trans s7) (hRr j z r hz hrj)
        have hr1 : r.1[i]? = some (r.1.getD i ([], [])) := by
          rw [List.getD_eq_getElem?_getD, List.getElem?_eq_getElem (by rw [(hro r (List.mem_of_getElem? hrj)).1]; exact hi')]
          rfl
        obtain ⟨yp, hyp, rp⟩ := RSeq.get hpl hpr hr1
        walk_at "go"
        refine w_ix hz1 (atI_nat (j := 0) rfl) ?_
        walk_at "go"
        refine w_ix hp1 (atI_nat hyp) ?_
        exact hN2 _ _ (Same.refl _) (by rw [ed]; exact rp)
      walk_at "go"
      refine ⟨(by show 1 ≤ sizeLine; decide), fun b1 hb1 => ?_⟩
      have s8 := s7.trans (Same.new (o := .lst [.ref ap]) hb1)
      have hlen7 : ys.length = rows.length := by rw [hyl]; exact List.length_map ..
      refine w_catLL (Same.at (Same.new hb1) e7) upd_same (by rw [sizeLine_eq]; simp only [List.length_cons, List.length_nil]; omega) fun b2 hb2 => ?_
      walk_at "go"
      have s9 := s8.trans (Same.new (o := .lst (ys ++ [.ref ap])) hb2)
      have hprs : RSeq true K (RPr K) (upd (upd H7 b1 (.lst [.ref ap])) b2 (.lst (ys ++ [.ref ap]))) (.ref b2) (prsAt rows i ++ [pairOf nd.p L x]) := by
        refine ⟨b2, _, rfl, Sq.lst upd_same, by rw [List.length_append, List.length_append, hyl]; rfl, fun j y' d' h1 h2 => ?_⟩
        by_cases hj : j < ys.length
        · rw [List.getElem?_append_left hj] at h1
          rw [List.getElem?_append_left (by omega)] at h2
          exact RPr.mono _ _ _ _ ((Same.new hb1).trans (Same.new hb2)) (hyr j y' d' h1 h2)
        · have h3 := (List.getElem?_eq_some_iff.mp h1).1
          rw [List.length_append] at h3
          have ej : j = ys.length := by
            have : j < ys.length + 1 := h3
            omega
          subst ej
          rw [List.getElem?_append_right (Nat.le_refl _), Nat.sub_self] at h1
          rw [hyl, List.getElem?_append_right (Nat.le_refl _), Nat.sub_self] at h2
          cases h1
          cases h2
          exact RPr.mono _ _ _ _ s9 hpair
      generalize upd (upd H7 b1 (.lst [.ref ap])) b2 (.lst (ys ++ [.ref ap])) = H9 at s9 hprs ⊢
      have s39 := s36.trans s9
      have s09 := s3.trans s39
      have f9 := f6.mono RPr.mono s9
      have hx9 := RVec.mono _ _ _ _ s39 hxv
      have hprok := prsAt_ok hro (i := i) hi'
      have hpo := pairOf_ok (x := x) hp0 ⟨hL5, hLm⟩
      -- x = plus(x, looked_at(times(query, x), pairs))
      refine ⟨p, nd, e, _, _, _, x, rfl, hN.mono s09, hp0, RMat.mono _ _ _ _ s39 m0, ⟨false, hx9⟩, mat_bd p97 (hM 0 (by omega)).2 st3, by rw [(hM 0 (by omega)).1]; omega, fun vq H10 s10 rq => ?_⟩
      walk_at "go"
      refine ⟨p, nd, e, _, _, _, _, true, rfl, (hN.mono s09).mono s10, hp0, rq, RSeq.mono RPr.mono _ _ _ _ s10 hprs, (vtimes_sml hp0 _ _).bd p97, by rw [vtimes_len, (hM 0 (by omega)).1]; omega, by rw [List.length_append]; unfold prsAt; rw [List.length_map]; simp only [List.length_cons, List.length_nil]; omega, fun o ho => ?_, fun vl H11 s11 rl => ?_⟩
      · rw [vtimes_len, (hM 0 (by omega)).1]
        rcases List.mem_append.mp ho with h | h
        · exact ⟨(hprok o h).1.1, (hprok o h).2.1, (hprok o h).2.2.bd p97⟩
        · rw [List.mem_singleton.mp h]; exact ⟨hpo.1.1, hpo.2.1, hpo.2.2.bd p97⟩
      walk_at "go"
      have hmid : (looked nd.p (vtimes nd.p (mt L 0) x) (prsAt rows i ++ [pairOf nd.p L x]) (zeros (vtimes nd.p (mt L 0) x))).length = wd := by
        rw [looked_len, zeros_len, vtimes_len, (hM 0 (by omega)).1]
        intro kv hk
        rw [zeros_len, vtimes_len, (hM 0 (by omega)).1]
        rcases List.mem_append.mp hk with h | h
        · exact (hprok kv h).2.1
        · rw [List.mem_singleton.mp h]; exact hpo.2.1
      have s911 := s10.trans s11
      refine ⟨p, nd, e, _, _, _, _, rfl, (hN.mono s09).mono s911, hp0, ⟨false, RVec.mono _ _ _ _ s911 hx9⟩, ⟨false, rl⟩, by rw [st3, hmid], by omega, fun vm H12 s12' rm => ?_⟩
      walk_at "go"
      have rm : RVec false K H12 vm (midOf nd.p L (prsAt rows i) x) := rm
      have hml := midOf_len (x := x) hp0 ⟨hL5, hLm⟩ hprok st3
      have s912 := s911.trans s12'
      have s012 := s09.trans s912
      have s312 := s39.trans s912
      -- x = plus(x, times(second, [number * number for number in times(first, x)]))
      refine ⟨p, nd, e, _, _, _, _, rfl, hN.mono s012, hp0, RMat.mono _ _ _ _ s312 m3, ⟨false, rm⟩, mat_bd p97 (hM 3 (by omega)).2 hml, by rw [(hM 3 (by omega)).1]; omega, fun vf H13 s13 rf => ?_⟩
      walk_at "go"
      obtain ⟨af, rfl, hf2⟩ := rf
      refine c_ints ((vtimes nd.p (mt L 3) (midOf nd.p L (prsAt rows i) x)).map V.int) hf2 (sqOf nd.p L (midOf nd.p L (prsAt rows i) x)) (by unfold sqOf; rw [List.length_map, List.length_map]) (line_of (by rw [List.length_map, vtimes_len, (hM 3 (by omega)).1]; omega)) (fun _ => rfl) (fun j z H14 N hj hz s14 hN2 => ?_) (fun D14 H14 hD14 s14 e14 => ?_)
      · obtain ⟨rfl, hj1⟩ := vec_at hz
        have hb := (vtimes_sml (p := nd.p) hp0 (mt L 3) (midOf nd.p L (prsAt rows i) x)).bd p97 _ (nth_mem (i := ((j : Nat) : Int)) (by omega) (by omega))
        walk_at "go"
        have en : nth (sqOf nd.p L (midOf nd.p L (prsAt rows i) x)) ((j : Nat) : Int) = nth (vtimes nd.p (mt L 3) (midOf nd.p L (prsAt rows i) x)) (j : Nat) * nth (vtimes nd.p (mt L 3) (midOf nd.p L (prsAt rows i) x)) (j : Nat) := nth_map (f := fun a => a * a) hj1
        rw [← en]
        exact hN2 _ (Same.refl _)
      walk_at "go"
      have hsl : (sqOf nd.p L (midOf nd.p L (prsAt rows i) x)).length = wd := by unfold sqOf; rw [List.length_map, vtimes_len, (hM 3 (by omega)).1]
      have s1214 := s13.trans s14
      refine ⟨p, nd, e, _, _, _, _, rfl, (hN.mono s012).mono s1214, hp0, RMat.mono _ _ _ _ (s312.trans s1214) m4, ⟨true, D14, rfl, Sq.lst e14⟩, mat_bd p97 (hM 4 (by omega)).2 hsl, by rw [(hM 4 (by omega)).1]; omega, fun vt H15 s15 rt => ?_⟩
      walk_at "go"
      have s1215 := s1214.trans s15
      refine ⟨p, nd, e, _, _, _, _, rfl, (hN.mono s012).mono s1215, hp0, ⟨false, RVec.mono _ _ _ _ s1215 rm⟩, ⟨false, rt⟩, by rw [hml, vtimes_len, (hM 4 (by omega)).1], by omega, fun vz H16 s16 rz => ?_⟩
      walk_at "go"
      have s1216 := s1215.trans s16
      have f16 := (f9.mono RPr.mono s912).mono RPr.mono s1216
      have hp16 : RPr K H16 (.ref ap) (pairOf nd.p L x) := RPr.mono _ _ _ _ ((s9.trans s912).trans s1216) hpair
      obtain ⟨ys16, e16, hl16, _⟩ := f16.at_
      obtain ⟨ys', e', hl', fp⟩ := f16.push (RPr.tup _ _ _ _ (NTup.lst e16) hp16)
      have eys : ys' = ys16 := by
        rw [e16] at e'
        cases e'
        rfl
      subst eys
      refine w_tyL (Sq.lst e16) ?_
      walk_at "go"
      refine w_append e16 (line_of (by rw [hl16, st1]; have := ok.l3; omega)) ?_
      walk_at "go"
      obtain ⟨az, rfl, hz16⟩ := rz
      refine ⟨az, _, _, _, _, _, _, _, _, _, _, _, _, rfl, ?_, ?_⟩
      · have h1 : (rowSt nd rows (startX nd rows l) (i + 1)).2 = nextOf nd.p L (prsAt rows i) x := by
          show nextOf nd.p (nd.lay.getD i []) (prsAt rows i) (rowSt nd rows (startX nd rows l) i).2 = _
          rw [eL, ex]
        rw [h1]
        exact RTup.upd RVec.tup RVec.mono (NTup.lst e16) ⟨az, rfl, hz16⟩
      · have h1 : (rowSt nd rows (startX nd rows l) (i + 1)).1 = (rowSt nd rows (startX nd rows l) i).1 ++ [pairOf nd.p L x] := by
          show (rowSt nd rows (startX nd rows l) i).1 ++ [pairOf nd.p (nd.lay.getD i []) (rowSt nd rows (startX nd rows l) i).2] = _
          rw [eL, ex]
        rw [h1]
        exact fp
    · rintro σ H' ⟨ax, y5, y6, y7, y8, y9, y10, y11, y12, y13, y14, y15, y16, rfl, hxv, f⟩
      rw [hLl] at hxv f
      obtain ⟨st1, st2, st3, st4⟩ := rowSt_ok ok hro hx0 nd.lay.length (Nat.le_refl _)
      have s3 := s12.trans f.same
      walk_at "go"
      have e3 : (lastSt nd rows l).2 = (rowSt nd rows (startX nd rows l) nd.lay.length).2 := rfl
      rw [← e3] at hxv st3
      refine c_ints ovs (s3.sq hO1) (rowD nd rows l).2 (by show (nd.out.map _).length = _; rw [List.length_map, hOl]) (line_of (by have := ok.o12; omega)) (fun _ => rfl) (fun j y H4 N hj hy s4 hN2 => ?_) (fun D4 H4 hD4 s4 e4 => ?_)
      · have hd : nd.out[j]? = some (nd.out[j]'(by omega)) := List.getElem?_eq_getElem (by omega)
        have ho := ok.out _ (List.mem_of_getElem? hd)
        walk_at "go"
        refine ⟨_, _, _, _, rfl, ⟨false, RVec.mono _ _ _ _ (s3.trans s4) (hOr j y _ hy hd)⟩, ⟨false, RVec.mono _ _ _ _ s4 hxv⟩, by rw [ho.1, st3], ho.2.bd ok.p97, fun H5 s5 => ?_⟩
        refine ⟨p, nd, e, _, rfl, (hN.mono (s3.trans s4)).mono s5, hp0, ?_⟩
        walk_at "go"
        have en : nth (rowD nd rows l).2 ((j : Nat) : Int) = 1 + dot (nd.out[j]'(by omega)) (lastSt nd rows l).2 % nd.p := nth_mapG (f := fun v => 1 + dot v (lastSt nd rows l).2 % nd.p) hd
        rw [← en]
        exact hN2 _ s5
      walk_at "go"
      have f4 := f.mono RPr.mono s4
      obtain ⟨a4, ys4, e4', hS4, hl4, hr4⟩ := f4.seq RPr.mono (K := K)
      cases e4'
      refine w_tupL hS4 fun t1 ht1 => ?_
      walk_at "go"
      have s5 : Same H4 (upd H4 t1 (.tup ys4)) := Same.new ht1
      refine w_tupL (Sq.lst (s5 _ _ e4)) fun t2 ht2 => ?_
      walk_at "go"
      have s6 : Same (upd H4 t1 (.tup ys4)) (upd (upd H4 t1 (.tup ys4)) t2 (.tup ((rowD nd rows l).2.map V.int))) := Same.new ht2
      refine ⟨(by show 2 ≤ sizeLine; decide), fun t3 ht3 => ?_⟩
      walk_at "go"
      have s7 := Same.new (o := .tup [.ref t1, .ref t2]) ht3
      refine k _ _ (((s3.trans s4).trans (s5.trans s6)).trans s7) ⟨t3, .ref t1, .ref t2, rfl, Sq.tup upd_same, ⟨t1, ys4, rfl, ((s6.trans s7).sq (Sq.tup upd_same)), hl4, fun i y d h1 h2 => RPr.mono _ _ _ _ ((s5.trans s6).trans s7) (hr4 i y d h1 h2)⟩, ⟨t2, rfl, s7.sq (Sq.tup upd_same)⟩⟩

/-! ### rows of letters, a net made -/
theorem rowsD_snoc (nd : NetD) (l : Nat) : ∀ (ls : List Nat) (acc : List RowD), rowsD nd (ls ++ [l]) acc = rowsD nd ls acc ++ [rowD nd (rowsD nd ls acc) l]
  | [], acc => rfl
  | a :: r, acc => rowsD_snoc nd l r (acc ++ [rowD nd acc a])
theorem rowsD_len (nd : NetD) : ∀ (ls : List Nat) (acc : List RowD), (rowsD nd ls acc).length = acc.length + ls.length
  | [], acc => rfl
  | a :: r, acc => by
    show (rowsD nd r (acc ++ [rowD nd acc a])).length = acc.length + (r.length + 1)
    rw [rowsD_len nd r, List.length_append, List.length_singleton]
    omega
theorem rowsD_ok {nd : NetD} {w : Nat} (ok : NetOk nd w) : ∀ (ls : List Nat) (acc : List RowD), (∀ l ∈ ls, l < nd.emb.length) → (∀ r ∈ acc, RowOk nd w r) → ∀ r ∈ rowsD nd ls acc, RowOk nd w r
  | [], acc, _, h => h
  | a :: r, acc, hl, h => rowsD_ok ok r _ (fun l hm => hl l (List.mem_cons_of_mem _ hm)) fun x hx => by
    rcases List.mem_append.mp hx with h1 | h1
    · exact h x h1
    · rw [List.mem_singleton.mp h1]; exact rowD_ok ok h (hl a (List.mem_cons_self ..))
def natI (ls : List Nat) : List Int := ls.map fun l => ((l : Nat) : Int)
theorem natI_len (ls : List Nat) : (natI ls).length = ls.length := List.length_map ..
theorem natI_at {ls : List Nat} {i : Nat} {y : V} (h : ((natI ls).map V.int)[i]? = some y) : ∃ l, ls[i]? = some l ∧ y = .int (l : Nat) := by
  rw [natI, List.map_map, List.getElem?_map] at h
  cases e : ls[i]? with
  | none => rw [e] at h; cases h
  | some l => rw [e] at h; exact ⟨l, rfl, (Option.some.inj h).symm⟩
def sp_rows_of (K : PySem.W.Frag) (C : Addr) : Sp := fun vs H Q _ => ∃ (p : Addr) (nd : NetD) (e v : V) (w : Nat) (ls : List Nat), vs = [.ref p, v] ∧ IsNet K C H p nd e ∧ NetOk nd w ∧ RVecX K H v (natI ls) ∧ (∀ l ∈ ls, l < nd.emb.length) ∧ ls.length ≤ 1000 ∧
  ∀ v' H', Same H H' → RSeq false K (RRow K) H' v' (rowsD nd ls []) → Q v' H'
theorem ok_rows_of (T : Txt K mg) : FnOk P w K mg base CX0 5 T.a_rows_of T.d_rows_of ["net", "letters"] (sp_rows_of K T.c_Net) := by
  refine T.F_rows_of.ok sc_rows_of (fun vs H Q E h => ?_) (fun cdv A outer s H vs Q E hr h => ?_)
  · obtain ⟨_, _, _, _, _, _, rfl, _⟩ := h
    rfl
  · obtain ⟨p, nd, e, v, wd, ls, rfl, hN, ok, ⟨b, a, rfl, hS⟩, hls, hz, k⟩ := h
    refine ⟨_, (pss_cons (ps_set (i := 2) sc_rows_of.nd rfl (Or.inl rfl) (pe_lst pa_nil))
      (pss_cons (ps_for PassesOwn.never rfl (k_seqS (K := K) rfl (pv 1)) (pg_name (i := 3) sc_rows_of.nd rfl (Or.inl rfl))
      (pss_one (ps_expr (k_bm (K := K) rfl PySem.F.plainAttrs_list PySem.F.slot_list_append PySem.F.type_list_append mt_append (pv 2) (pa_cons (pe_meth (pv 0) T.C_Net T.m_Net_row (ok_Net_row T) (hr.mono (by decide)) T.b_Net_row .nil pass0 (pa_cons (pv 2) (pa_cons (pv 3) pa_nil))) pa_nil)))))
      (pss_one (ps_ret (pe_callTy (k_tupS (K := K) rfl) (by rfl) T.z_tuple (by decide +kernel) (pa_cons (pv 2) pa_nil)))))), ?_⟩
    refine go_start (σ' := [some (.ref p), some (.ref a), none, none]) rfl ?_
    walk_at "go"
    refine ⟨Nat.zero_le _, fun ol hol => ?_⟩
    walk_at "go"
    refine l_seq (b := b) ((natI ls).map V.int) (fun i σ H' => ∃ y3 : Option V, σ = [some (.ref p), some (.ref a), some (.ref ol), y3] ∧ Filled (RRow K) H H' ol (rowsD nd (ls.take i) []))
      ((Same.new hol).sq hS) ⟨none, rfl, Filled.nil hol⟩ (fun i σ H' _ ⟨_, _, f⟩ => f.same.sq hS) ?_ ?_
    · rintro i x σ H' hi hx ⟨y3, rfl, f⟩
      obtain ⟨l, hl, rfl⟩ := natI_at hx
      have hli : i < ls.length := (List.getElem?_eq_some_iff.mp hl).1
      obtain ⟨dx, _, _, _, _, h0, _⟩ := id (hN.mono f.same)
      unfold netF at h0
      obtain ⟨ys, e1, hl1, _⟩ := f.at_
      have hlen : (rowsD nd (ls.take i) []).length = i := by rw [rowsD_len, List.length_take]; simp only [List.length_nil]; omega
      walk_at "go"
      refine ⟨p, nd, e, _, true, rowsD nd (ls.take i) [], l, wd, rfl, hN.mono f.same, ok, f.seq RRow.mono, rowsD_ok ok _ _ (fun l' hm => hls l' (List.mem_of_mem_take hm)) (List.forall_mem_nil _), by rw [hlen]; omega, hls l (List.mem_of_getElem? hl), fun v' H2 s2 r2 => ?_⟩
      walk_at "go"
      have f2 := f.mono RRow.mono s2
      have e2 := s2 _ _ e1
      obtain ⟨ys2, e2', hl2, fp⟩ := f2.push (d := rowD nd (rowsD nd (ls.take i) []) l) (RRow.tup _ _ _ _ (NTup.lst e2) r2)
      refine w_append e2' (line_of (by rw [hl2, hlen]; omega)) ?_
      walk_at "go"
      refine ⟨_, rfl, ?_⟩
      rw [List.take_add_one, hl]
      show Filled (RRow K) H _ ol (rowsD nd (ls.take i ++ [l]) [])
      rw [rowsD_snoc]
      exact fp
    · rintro σ H' ⟨y3, rfl, f⟩
      rw [List.length_map, natI_len, List.take_length] at f
      obtain ⟨a4, ys4, e4, hS4, hl4, hr4⟩ := f.seq RRow.mono (K := K)
      cases e4
      walk_at "go"
      refine w_tupL hS4 fun t1 ht1 => ?_
      walk_at "go"
      exact k _ _ (f.same.trans (Same.new ht1)) ⟨t1, ys4, rfl, Sq.tup upd_same, hl4, fun i y d h1 h2 => RRow.mono _ _ _ _ (Same.new ht1) (hr4 i y d h1 h2)⟩
def lastW (rows : List RowD) : List Int := (rows.getLastD ([], [])).2
theorem last_atV {α : Type} {xs : List α} {x : α} {n : Nat} (h : xs[n]? = some x) (hn : xs.length = n + 1) : atI xs (-1) = some x := by
  unfold atI ixN
  rw [if_neg (by decide), if_pos (by omega)]
  show xs[(-1 + ((xs.length : Nat) : Int)).toNat]? = _
  rw [show (-1 + ((xs.length : Nat) : Int)).toNat = n by omega]
  exact h
def primes : List Int := [2, 3, 5, 7, 11, 13, 17, 19, 23, 29, 31, 37, 41, 43, 47, 53, 59, 61, 67, 71, 73, 79, 83, 89, 97]
theorem prime_in {p : Int} (h : p ∈ primes) : (if true = true then !inV (.int p) (primes.map V.int) else inV (.int p) (primes.map V.int)) = false := by
  rw [if_pos rfl]
  have : inV (.int p) (primes.map V.int) = true := by
    unfold inV
    exact List.any_eq_true.mpr ⟨.int p, List.mem_map.mpr ⟨p, h, rfl⟩, by rw [eqV_int]; exact beq_self_eq_true p⟩
  rw [this]
  rfl
theorem prime_between {p : Int} (h : p ∈ primes) : 2 ≤ p ∧ p ≤ 97 := by
  simp only [primes, List.mem_cons, List.not_mem_nil, or_false] at h
  omega
def sp_Net___init__ (K : PySem.W.Frag) (C : Addr) : Sp := fun vs H Q _ => ∃ (p dx : Addr) (nd : NetD) (v1 v2 v3 v4 e : V), vs = [.ref p, .int nd.p, v1, v2, v3, v4, e] ∧ H p = some (.ins C dx []) ∧ nd.p ∈ primes ∧
  RMatX K (hide p H) v1 nd.emb ∧ RVecX K (hide p H) v2 nd.sh ∧ RLayX K (hide p H) v3 nd.lay ∧ RMatX K (hide p H) v4 nd.out ∧ nd.emb.length ≤ 1000 ∧ nd.out.length ≤ 1000 ∧ nd.lay.length ≤ 1000 ∧ (∀ L ∈ nd.lay, L.length ≤ 1000 ∧ ∀ M ∈ L, M.length ≤ 1000) ∧
  ∀ H', Same (hide p H) (hide p H') → IsNet K C H' p nd e → Q .non H'
theorem ok_Net___init__ (T : Txt K mg) : FnOk P w K mg base CX0 3 T.a_Net___init__ T.d_Net___init__ ["self", "prime", "embed", "shift", "layers", "out", "end"] (sp_Net___init__ K T.c_Net) := by
  refine T.F_Net___init__.ok sc_Net___init__ (fun vs H Q E h => ?_) (fun cdv A outer s H vs Q E hr h => ?_)
  · obtain ⟨_, _, _, _, _, _, _, _, rfl, _⟩ := h
    rfl
  · obtain ⟨p, dx, nd, v1, v2, v3, v4, e, rfl, h0, hpr, f1, f2, f3, f4, z1, z2, z3, z4, k⟩ := h
    have cN := T.C_Net
    have n0 := T.n_Net_prime
    have n1 := T.n_Net_embed
    have n2 := T.n_Net_shift
    have n3 := T.n_Net_layers
    have n4 := T.n_Net_out
    have n5 := T.n_Net_end
    have hb := prime_between hpr
    refine ⟨_, (pss_cons (ps_if (PW.pt (pw_or (pt_not (k_tru (K := K) rfl (pe_call (ok_is_between T) (hr.mono (by decide)) (by rfl) T.g_is_between T.F_is_between.kp T.b_is_between .nil pass0 (pa_cons (pv 1) (pa_cons pe_int (pa_cons pe_int pa_nil)))) (by intro _; rfl))) (pw_or1 (pt_cmpR (k_notInS (K := K) rfl) (pv 1) (pe_glob (v := .ref T.k_PRIMES) (by rfl) T.gk_PRIMES rfl) rfl)))) (pss_one ps_never) pss_nil)
      (pss_cons (k_sfld (K := K) rfl (pv 0) (pv 1) rfl)
      (pss_cons (k_sfld (K := K) rfl (pv 0) (pe_call (ok_matrix_of T) (hr.mono (by decide)) (by rfl) T.g_matrix_of T.F_matrix_of.kp T.b_matrix_of .nil pass0 (pa_cons (pv 2) pa_nil)) rfl)
      (pss_cons (k_sfld (K := K) rfl (pv 0) (pe_call (ok_vector_of T) (hr.mono (by decide)) (by rfl) T.g_vector_of T.F_vector_of.kp T.b_vector_of .nil pass0 (pa_cons (pv 3) pa_nil)) rfl)
      (pss_cons (k_sfld (K := K) rfl (pv 0) (pe_callTy (k_tupS (K := K) rfl) (by rfl) T.z_tuple (by decide +kernel) (pa_cons (pe_lc (own := [("layer", 7)]) (g := gName 7) (tt := tYes) rfl sc_Net___init__.nd (k_seqS (K := K) rfl (pv 4)) (blkOk_by (own := [("layer", 7)]) (by kernel_rfl)) (fun _ _ _ _ _ => (pg_name (i := 7) sc_Net___init__.nd rfl (by first | exact Or.inl rfl | exact Or.inr rfl))) (fun _ _ _ _ _ => pts_nil) (fun _ _ _ _ _ => (pe_callTy (k_tupS (K := K) rfl) (by rfl) T.z_tuple (by decide +kernel) (pa_cons (pe_lc (own := [("matrix", 8)]) (g := gName 8) (tt := tYes) rfl sc_Net___init__.nd (k_seqS (K := K) rfl (pv 7)) (blkOk_by (own := [("matrix", 8)]) (by kernel_rfl)) (fun _ _ _ _ _ => (pg_name (i := 8) sc_Net___init__.nd rfl (by first | exact Or.inl rfl | exact Or.inr rfl))) (fun _ _ _ _ _ => pts_nil) (fun _ _ _ _ _ => (pe_call (ok_matrix_of T) (hr.mono (by decide)) (by rfl) T.g_matrix_of T.F_matrix_of.kp T.b_matrix_of .nil pass0 (pa_cons (pv 8) pa_nil)))) pa_nil)))) pa_nil)) rfl)
      (pss_cons (k_sfld (K := K) rfl (pv 0) (pe_call (ok_matrix_of T) (hr.mono (by decide)) (by rfl) T.g_matrix_of T.F_matrix_of.kp T.b_matrix_of .nil pass0 (pa_cons (pv 5) pa_nil)) rfl)
      (pss_one (k_sfld (K := K) rfl (pv 0) (pv 6) rfl)))))))), ?_⟩
    refine go_start (σ' := [some (.ref p), some (.int nd.p), some v1, some v2, some v3, some v4, some e, none, none]) rfl ?_
    walk_at "go"
    refine ⟨_, _, _, _, rfl, .inl ⟨_, rfl, rfl⟩, ?_⟩
    rw [decide_eq_true hb]
    walk_at "go"
    refine w_notInS (b := false) (T.tk_PRIMES H) rfl rfl ?_
    have ep := prime_in hpr
    rw [show (primes.map V.int) = [.int 2, .int 3, .int 5, .int 7, .int 11, .int 13, .int 17, .int 19, .int 23, .int 29, .int 31, .int 37, .int 41, .int 43, .int 47, .int 53, .int 59, .int 61, .int 67, .int 71, .int 73, .int 79, .int 83, .int 89, .int 97] from rfl] at ep
    rw [ep]
    walk_at "go"
    -- self.embed
    have b1 : Same (hide p H) (hide p (upd H p (.ins T.c_Net dx [("prime", .int nd.p)]))) := by rw [hide_upd]; exact Same.refl _
    refine ⟨_, _, rfl, RMatX.mono _ _ _ _ (b1.trans (hide_same _ _)) f1, by omega, fun u1 H1 s1 r1 => ?_⟩
    have g1 := s1 p _ upd_same
    have b2 := b1.trans (hide_mono s1)
    have r1 := RMat.tup _ _ _ _ (NTup.ins g1) r1
    walk_at "go"
    -- self.shift
    have b3 : Same (hide p H1) (hide p (upd H1 p (.ins T.c_Net dx [("prime", .int nd.p), ("embed", u1)]))) := by rw [hide_upd]; exact Same.refl _
    refine ⟨_, _, rfl, RVecX.mono _ _ _ _ ((b2.trans b3).trans (hide_same _ _)) f2, fun u2 H2 s2 r2 => ?_⟩
    have g2 := s2 p _ upd_same
    have b4 := b3.trans (hide_mono s2)
    have r2 := RVec.tup _ _ _ _ (NTup.ins g2) r2
    have r1 := RMat.mono _ _ _ _ b4 r1
    have b5 := b2.trans b4
    walk_at "go"
    -- self.layers
    have b6 : Same (hide p H2) (hide p (upd H2 p (.ins T.c_Net dx [("prime", .int nd.p), ("embed", u1), ("shift", u2)]))) := by rw [hide_upd]; exact Same.refl _
    generalize eH3 : upd H2 p (.ins T.c_Net dx [("prime", .int nd.p), ("embed", u1), ("shift", u2)]) = H3 at b6 ⊢
    have g3 : H3 p = some (.ins T.c_Net dx [("prime", .int nd.p), ("embed", u1), ("shift", u2)]) := by rw [← eH3, upd_same]
    obtain ⟨bl, al, lvs, rfl, hL1, hLl, hLr⟩ := RLayX.mono _ _ _ _ ((b5.trans b6).trans (hide_same _ _)) f3
    refine c_rep (R := RSeq false K (RMat K)) (RSeq.mono RMat.mono) (RSeq.tup RMat.tup) lvs hL1 nd.lay hLl.symm (line_of (by omega)) (fun _ => rfl) (fun i y L H4 N hi hy hL s4 hN2 => ?_) (fun D4 H4 ys hD4 s4 e4 hyl hyr => ?_)
    · obtain ⟨zl1, zl2⟩ := z4 L (List.mem_of_getElem? hL)
      obtain ⟨b', aL, ms, rfl, hm1, hml, hmr⟩ := hLr i y L hy hL
      walk_at "go"
      refine c_rep (R := RMat K) RMat.mono RMat.tup ms (s4.sq hm1) L hml.symm (line_of (by omega)) (fun _ => rfl) (fun j z M H5 N2 hj hz hM s5 hN3 => ?_) (fun D5 H5 zs hD5 s5 e5 hzl hzr => ?_)
      · walk_at "go"
        exact ⟨_, _, rfl, RMatX.mono _ _ _ _ (s4.trans s5) (hmr j z M hz hM), by have := zl2 M (List.mem_of_getElem? hM); omega, fun v' H6 s6 r6 => hN3 v' H6 s6 r6⟩
      · walk_at "go"
        refine w_tupL (Sq.lst e5) fun t ht => ?_
        walk_at "go"
        exact hN2 _ _ (s5.trans (Same.new ht)) ⟨t, zs, rfl, Sq.tup upd_same, hzl, fun j z M h1 h2 => RMat.mono _ _ _ _ (Same.new ht) (hzr j z M h1 h2)⟩
    walk_at "go"
    refine w_tupL (Sq.lst e4) fun t ht => ?_
    have s5 := s4.trans (Same.new (o := .tup ys) ht)
    have g4 := s5 p _ g3
    have r3 : RSeq false K (RSeq false K (RMat K)) (upd H4 t (.tup ys)) (.ref t) nd.lay := ⟨t, ys, rfl, Sq.tup upd_same, hyl, fun i y L h1 h2 => RSeq.mono RMat.mono _ _ _ _ (Same.new ht) (hyr i y L h1 h2)⟩
    generalize upd H4 t (.tup ys) = H5 at s5 g4 r3 ⊢
    have r3 := RSeq.tup (RSeq.tup RMat.tup) _ _ _ _ (NTup.ins g4) r3
    have b7 := b6.trans (hide_mono s5)
    have r1 := RMat.mono _ _ _ _ b7 r1
    have r2 := RVec.mono _ _ _ _ b7 r2
    have b8 := b5.trans b7
    walk_at "go"
    -- self.out
    have b9 : Same (hide p H5) (hide p (upd H5 p (.ins T.c_Net dx [("prime", .int nd.p), ("embed", u1), ("shift", u2), ("layers", .ref t)]))) := by rw [hide_upd]; exact Same.refl _
    refine ⟨_, _, rfl, RMatX.mono _ _ _ _ ((b8.trans b9).trans (hide_same _ _)) f4, by omega, fun u4 H6 s6 r4 => ?_⟩
    have g6 := s6 p _ upd_same
    have b10 := b9.trans (hide_mono s6)
    have r4 := RMat.tup _ _ _ _ (NTup.ins g6) r4
    walk_at "go"
    refine k _ (by simp only [hide_upd]; exact b8.trans b10) ⟨dx, u1, u2, .ref t, u4, upd_same, ?_, ?_, ?_, ?_⟩
    · exact RMat.mono _ _ _ _ (hide_same p _) (by simp only [hide_upd]; exact RMat.mono _ _ _ _ b10 r1)
    · exact RVec.mono _ _ _ _ (hide_same p _) (by simp only [hide_upd]; exact RVec.mono _ _ _ _ b10 r2)
    · exact RSeq.mono (RSeq.mono RMat.mono) _ _ _ _ (hide_same p _) (by simp only [hide_upd]; exact RSeq.mono (RSeq.mono RMat.mono) _ _ _ _ b10 r3)
    · exact RMat.mono _ _ _ _ (hide_same p _) (by simp only [hide_upd]; exact r4)

/-! ### weights behind letters -/
def sp_weights_behind (K : PySem.W.Frag) (C : Addr) : Sp := fun vs H Q _ => ∃ (p : Addr) (nd : NetD) (e v : V) (w : Nat) (ls : List Nat), vs = [.ref p, v] ∧ IsNet K C H p nd e ∧ NetOk nd w ∧ RVecX K H v (natI ls) ∧ (∀ l ∈ ls, l < nd.emb.length) ∧ ls.length ≤ 1000 ∧ 0 < ls.length ∧
  ∀ v' H', Same H H' → RVec false K H' v' (lastW (rowsD nd ls [])) → Q v' H'
theorem ok_weights_behind (T : Txt K mg) : FnOk P w K mg base CX0 6 T.a_weights_behind T.d_weights_behind ["net", "letters"] (sp_weights_behind K T.c_Net) := by
  refine T.F_weights_behind.ok sc_weights_behind (fun vs H Q E h => ?_) (fun cdv A outer s H vs Q E hr h => ?_)
  · obtain ⟨_, _, _, _, _, _, rfl, _⟩ := h
    rfl
  · obtain ⟨p, nd, e, v, wd, ls, rfl, hN, ok, hv, hls, hz, hpos, k⟩ := h
    refine ⟨_, (pss_one (ps_ret (pe_ix (k_ix (K := K) rfl) (pe_ix (k_ix (K := K) rfl) (pe_call (ok_rows_of T) (hr.mono (by decide)) (by rfl) T.g_rows_of T.F_rows_of.kp T.b_rows_of .nil pass0 (pa_cons (pv 0) (pa_cons (pv 1) pa_nil))) (pe_un un_neg pe_int) (fun _ _ => rfl)) pe_int (fun _ _ => rfl)))), ?_⟩
    refine go_start (σ' := [some (.ref p), some v]) rfl ?_
    walk_at "go"
    refine ⟨p, nd, e, v, wd, ls, rfl, hN, ok, hv, hls, hz, fun v' H2 s2 ⟨a2, ys, e2, hS2, hl2, hr2⟩ => ?_⟩
    subst e2
    have hlen : (rowsD nd ls []).length = ls.length := by rw [rowsD_len]; simp only [List.length_nil]; omega
    have hd : (rowsD nd ls [])[ls.length - 1]? = some ((rowsD nd ls []).getLastD ([], [])) := by
      rw [← hlen, ← List.getLast?_eq_getElem?, List.getLastD_eq_getLast?]
      cases e : (rowsD nd ls []).getLast? with
      | none => rw [List.getLast?_eq_none_iff] at e; rw [e] at hlen; simp at hlen; omega
      | some x => rfl
    obtain ⟨y, hy, ⟨ay, y1, y2, rfl, hy1, _, hy2⟩⟩ := RSeq.get hl2 hr2 hd
    walk_at "go"
    refine w_ix hS2 (last_atV hy (by omega)) ?_
    walk_at "go"
    refine w_ix hy1 (atI_nat (j := 1) rfl) ?_
    exact k _ _ s2 hy2

/-! ### the law's own nets: numbers, rows, matrices -/
def RNet (K : PySem.W.Frag) : Rep NetD := fun H v nd => ∃ a v1 v2 v3 v4, v = .ref a ∧ Sq false K H a [.int nd.p, v1, v2, v3, v4] ∧ RMat K H v1 nd.emb ∧ RVec false K H v2 nd.sh ∧ RSeq false K (RSeq false K (RMat K)) H v3 nd.lay ∧ RMat K H v4 nd.out
theorem RNet.mono {K : PySem.W.Frag} : RMono (RNet K) := fun _ _ _ _ s ⟨a, v1, v2, v3, v4, e, h, h1, h2, h3, h4⟩ => ⟨a, v1, v2, v3, v4, e, s.sq h, RMat.mono _ _ _ _ s h1, RVec.mono _ _ _ _ s h2, RSeq.mono (RSeq.mono RMat.mono) _ _ _ _ s h3, RMat.mono _ _ _ _ s h4⟩
theorem RNet.tup {K : PySem.W.Frag} : RTup (RNet K) := fun _ _ _ _ s ⟨a, v1, v2, v3, v4, e, h, h1, h2, h3, h4⟩ => ⟨a, v1, v2, v3, v4, e, sq_hide s h, RMat.tup _ _ _ _ s h1, RVec.tup _ _ _ _ s h2, RSeq.tup (RSeq.tup RMat.tup) _ _ _ _ s h3, RMat.tup _ _ _ _ s h4⟩
def sp_L_vector (K : PySem.W.Frag) : Sp := fun vs H Q _ => ∃ (a : Addr) (ns : List Int) (b : Bool) (t w p : Int), vs = [.ref a, .int t, .int w, .int p] ∧ Sq b K H a (ns.map V.int) ∧ 0 < ns.length ∧ ns.length ≤ 1000 ∧ 0 ≤ t ∧ t ≤ 1000000 ∧ 0 ≤ w ∧ w ≤ 4 ∧ 2 ≤ p ∧ p ≤ 97 ∧
  ∀ v' H' (us : List Int), Same H H' → RVec false K H' v' us → us.length = w.toNat → Sml p us → Q v' H'
theorem sml_snoc {p : Int} (hp : 0 < p) {us : List Int} (h : Sml p us) (z : Int) : Sml p (us ++ [z % p]) := fun x hx => by
  rcases List.mem_append.mp hx with h1 | h1
  · exact h x h1
  · rw [List.mem_singleton.mp h1]
    exact ⟨Int.emod_nonneg _ (by omega), Int.emod_lt_of_pos _ hp⟩
theorem ok_L_vector (T : Txt K mg) : FnOk P w K mg base CX0 1 T.a_L_vector T.d_L_vector ["_law_numbers_here", "_law_at", "_law_width", "_law_prime"] (sp_L_vector K) := by
  refine T.F_L_vector.ok sc_L_vector (fun vs H Q E h => ?_) (fun cdv A outer s H vs Q E hr h => ?_)
  · obtain ⟨_, _, _, _, _, _, rfl, _⟩ := h
    rfl
  · obtain ⟨a, ns, b, t, wd, p, rfl, hS, hn0, hn1, t0, t1, w0, w1, p0, p1, k⟩ := h
    refine ⟨_, (pss_cons (ps_set (i := 4) sc_L_vector.nd rfl (Or.inl rfl) (pe_lst pa_nil))
      (pss_cons (ps_for PassesOwn.never rfl (pi_range2 rfl T.z_range (pa_cons (pv 1) (pa_cons (pe_op (k_addG (K := K) rfl) (pv 1) (pv 2)) pa_nil))) (pg_name (i := 5) sc_L_vector.nd rfl (Or.inl rfl))
      (pss_one (ps_expr (k_bm (K := K) rfl PySem.F.plainAttrs_list PySem.F.slot_list_append PySem.F.type_list_append mt_append (pv 4) (pa_cons (pe_op op_mod (pe_callTy cr_int1 (by rfl) T.z_int (by decide +kernel) (pa_cons (pe_op (k_addG (K := K) rfl) (pe_ix (k_ix (K := K) rfl) (pv 0) (pe_op op_mod (pe_callTy cr_int1 (by rfl) T.z_int (by decide +kernel) (pa_cons (pv 5) pa_nil)) (pe_callB (k_lenS (K := K) rfl) (by rfl) T.z_len (by decide +kernel) (pa_cons (pv 0) pa_nil))) (fun _ _ => rfl)) (pe_op op_mul pe_int (pe_op op_fdiv (pv 5) (pe_callB (k_lenS (K := K) rfl) (by rfl) T.z_len (by decide +kernel) (pa_cons (pv 0) pa_nil))))) pa_nil)) (pv 3)) pa_nil)))))
      (pss_one (ps_ret (pe_callTy (k_tupS (K := K) rfl) (by rfl) T.z_tuple (by decide +kernel) (pa_cons (pv 4) pa_nil)))))), ?_⟩
    refine go_start (σ' := [some (.ref a), some (.int t), some (.int wd), some (.int p), none, none]) rfl ?_
    try dsimp only [cxOf, Cx.nox, Cx.wish]
    walk_at "go"
    refine ⟨Nat.zero_le _, fun D hD => ?_⟩
    walk_at "go"
    refine l_range2 (fun i σ H' => ∃ (us : List Int) (y5 : Option V), σ = [some (.ref a), some (.int t), some (.int wd), some (.int p), some (.ref D), y5] ∧ us.length = i ∧ Sml p us ∧ Same H H' ∧ H' D = some (.lst (us.map V.int)))
      ⟨by omega, by omega, by omega, by omega⟩ ⟨[], none, rfl, rfl, fun x hx => by simp at hx, Same.new hD, upd_same⟩ ?_ ?_
    · rintro i σ H' hi ⟨us, y5, rfl, hl, hs, sm, hL⟩
      have hS' := sm.sq hS
      have hm0 : 0 ≤ (t + (i : Int)) % (ns.length : Int) := Int.emod_nonneg _ (by omega)
      have hm1 : (t + (i : Int)) % (ns.length : Int) < ns.length := Int.emod_lt_of_pos _ (by omega)
      walk_at "go"
      refine w_append hL (line_of (by rw [List.length_map]; omega)) ?_
      walk_at "go"
      refine ⟨us ++ [_], _, rfl, by rw [List.length_append, hl]; rfl, sml_snoc (by omega) hs _, Same.mut sm hD, by rw [upd_same, List.map_append]; rfl⟩
    · rintro σ H' ⟨us, y5, rfl, hl, hs, sm, hL⟩
      walk_at "go"
      refine w_tupL (Sq.lst hL) fun t1 ht1 => ?_
      walk_at "go"
      exact k _ _ us (sm.trans (Same.new ht1)) ⟨t1, rfl, Sq.tup upd_same⟩ (by omega) hs
def sp_L_dot (K : PySem.W.Frag) : Sp := fun vs H Q _ => ∃ (v1 v2 : V) (us ws : List Int) (p : Int), vs = [v1, v2, .int p] ∧ RVecX K H v1 us ∧ RVecX K H v2 ws ∧ us.length = ws.length ∧ us.length ≤ 1000 ∧ Bd us ∧ 0 < p ∧ Q (.int (dot us ws % p)) H
theorem ok_L_dot (T : Txt K mg) : FnOk P w K mg base CX0 1 T.a_L_dot T.d_L_dot ["_law_one", "_law_other", "_law_prime"] (sp_L_dot K) := by
  refine T.F_L_dot.ok sc_L_dot (fun vs H Q E h => ?_) (fun cdv A outer s H vs Q E hr h => ?_)
  · obtain ⟨_, _, _, _, _, rfl, _⟩ := h
    rfl
  · obtain ⟨v1, v2, us, ws, p, rfl, ⟨b1, a1, rfl, h1⟩, ⟨b2, a2, rfl, h2⟩, hl, hz, hB, hp, k⟩ := h
    refine ⟨_, (pss_cons (ps_set (i := 3) sc_L_dot.nd rfl (Or.inl rfl) pe_int)
      (pss_cons (ps_for PassesOwn.never rfl (pi_range1 rfl T.z_range (pa_cons (pe_callB (k_lenS (K := K) rfl) (by rfl) T.z_len (by decide +kernel) (pa_cons (pv 0) pa_nil)) pa_nil)) (pg_name (i := 4) sc_L_dot.nd rfl (Or.inl rfl))
      (pss_one (ps_set (i := 3) sc_L_dot.nd rfl (Or.inl rfl) (pe_op (k_addG (K := K) rfl) (pv 3) (pe_op op_mul (pe_ix (k_ix (K := K) rfl) (pv 0) (pv 4) (fun _ _ => rfl)) (pe_ix (k_ix (K := K) rfl) (pv 1) (pv 4) (fun _ _ => rfl)))))))
      (pss_one (ps_ret (pe_op op_mod (pe_callTy cr_int1 (by rfl) T.z_int (by decide +kernel) (pa_cons (pv 3) pa_nil)) (pv 2)))))), ?_⟩
    refine go_start (σ' := [some (.ref a1), some (.ref a2), some (.int p), none, none]) rfl ?_
    try dsimp only [cxOf, Cx.nox, Cx.wish]
    walk_at "go"
    refine l_range (fun i σ H' => ∃ y4, σ = [some (.ref a1), some (.ref a2), some (.int p), some (.int (pre (List.zipWith (· * ·) us ws) i)), y4] ∧ H' = H)
      (by omega) (by omega) ⟨none, by rw [pre_zero]; rfl, rfl⟩ ?_ ?_
    · rintro i σ H' hi ⟨y4, rfl, rfl⟩
      have hb := hB _ (nth_mem (ns := us) (i := ((i : Nat) : Int)) (by omega) (by omega))
      walk_at "go"
      have e := pre_succ (ns := List.zipWith (· * ·) us ws) (j := i) (by rw [List.length_zipWith]; omega)
      rw [nth_zip (by omega) (by omega)] at e
      exact ⟨_, by rw [e]; rfl, rfl⟩
    · rintro σ H' ⟨y4, rfl, rfl⟩
      walk_at "go"
      rw [show ((us.length : Nat) : Int).toNat = (List.zipWith (· * ·) us ws).length by rw [List.length_zipWith, hl, Nat.min_self]; omega, pre_all]
      exact k
def sp_L_times (K : PySem.W.Frag) : Sp := fun vs H Q _ => ∃ (v1 v2 : V) (M : Mat) (x : List Int) (p : Int), vs = [v1, v2, .int p] ∧ RMat K H v1 M ∧ RVecX K H v2 x ∧ (∀ r ∈ M, r.length = x.length ∧ Bd r) ∧ M.length ≤ 1000 ∧ x.length ≤ 1000 ∧ 0 < p ∧
  ∀ D H', H D = none → Same H H' → H' D = some (.lst ((vtimes p M x).map V.int)) → Q (.ref D) H'
theorem ok_L_times (T : Txt K mg) : FnOk P w K mg base CX0 2 T.a_L_times T.d_L_times ["_law_matrix", "_law_vector_here", "_law_prime"] (sp_L_times K) := by
  refine T.F_L_times.ok sc_L_times (fun vs H Q E h => ?_) (fun cdv A outer s H vs Q E hr h => ?_)
  · obtain ⟨_, _, _, _, _, rfl, _⟩ := h
    rfl
  · obtain ⟨v1, v2, M, x, p, rfl, ⟨a1, xs, rfl, h1, hl1, hr1⟩, hx, hM, hz, hxz, hp, k⟩ := h
    refine ⟨_, (pss_one (ps_ret (pe_lc (own := [("_law_row_here", 3)]) (g := gName 3) (tt := tYes) rfl sc_L_times.nd (k_seqS (K := K) rfl (pv 0)) (blkOk_by (own := [("_law_row_here", 3)]) (by kernel_rfl)) (fun _ _ _ _ _ => (pg_name (i := 3) sc_L_times.nd rfl (by first | exact Or.inl rfl | exact Or.inr rfl))) (fun _ _ _ _ _ => pts_nil) (fun _ _ _ _ _ => (pe_call (ok_L_dot T) (hr.mono (by decide)) (by rfl) T.g_L_dot T.F_L_dot.kp T.b_L_dot .nil pass0 (pa_cons (pv 3) (pa_cons (pv 1) (pa_cons (pv 2) pa_nil)))))))), ?_⟩
    refine go_start (σ' := [some (.ref a1), some v2, some (.int p), none]) rfl ?_
    try dsimp only [cxOf, Cx.nox, Cx.wish]
    walk_at "go"
    refine c_ints xs h1 (vtimes p M x) (by rw [vtimes_len, hl1]) (line_of (by omega)) (fun _ => rfl) (fun i y H1 N hi hy sm hN2 => ?_) (fun D H' hD sm e2 => ?_)
    · have hd : M[i]? = some (M[i]'(by omega)) := List.getElem?_eq_getElem (by omega)
      obtain ⟨hm1, hm2⟩ := hM _ (List.mem_of_getElem? hd)
      walk_at "go"
      refine ⟨_, _, _, x, p, rfl, ⟨false, RVec.mono _ _ _ _ sm (hr1 i y _ hy hd)⟩, RVecX.mono _ _ _ _ sm hx, hm1, by omega, hm2, hp, ?_⟩
      rw [← nth_mapG (f := fun r => dot r x % p) hd]
      exact hN2 _ (Same.refl _)
    · walk_at "go"
      exact k _ _ hD sm e2

/-! ### _law_net -/
def sp_L_net (K : PySem.W.Frag) : Sp := fun vs H Q _ => ∃ (a : Addr) (ns : List Int) (b : Bool) (L wd m p : Int), vs = [.ref a, .int L, .int wd, .int m, .int p] ∧ Sq b K H a (ns.map V.int) ∧ 0 < ns.length ∧ ns.length ≤ 1000 ∧ 1 ≤ L ∧ L ≤ 12 ∧ 1 ≤ wd ∧ wd ≤ 4 ∧ 0 ≤ m ∧ m ≤ 3 ∧ 2 ≤ p ∧ p ≤ 97 ∧
  ∀ v' H' (nd : NetD), Same H H' → RNet K H' v' nd → NetOk nd wd.toNat → nd.p = p → (nd.emb.length : Int) = L → nd.out.length = nd.emb.length → (nd.lay.length : Int) = m → Q v' H'
theorem matok_cut {p : Int} {w : Nat} {M : Mat} (h : MatOk p w M) (a n : Nat) : MatOk p w ((M.drop a).take n) := fun r hr => h r (List.mem_of_mem_drop (List.mem_of_mem_take hr))
theorem ok_L_net (T : Txt K mg) : FnOk P w K mg base CX0 2 T.a_L_net T.d_L_net ["_law_numbers_here", "_law_letters", "_law_width", "_law_many", "_law_prime"] (sp_L_net K) := by
  refine T.F_L_net.ok sc_L_net (fun vs H Q E h => ?_) (fun cdv A outer s H vs Q E hr h => ?_)
  · obtain ⟨_, _, _, _, _, _, _, rfl, _⟩ := h
    rfl
  · obtain ⟨a, ns, b, L, wd, m, p, rfl, hS, hn0, hn1, L0, L1, w0, w1, m0, m1, p0, p1, k⟩ := h
    refine ⟨_, (pss_cons (ps_set (i := 5) sc_L_net.nd rfl (Or.inl rfl) (pe_lst pa_nil))
      (pss_cons (ps_for PassesOwn.never rfl (pi_range1 rfl T.z_range (pa_cons (pe_op (k_addG (K := K) rfl) (pe_op (k_addG (K := K) rfl) (pe_op op_mul pe_int (pv 1)) pe_int) (pe_op op_mul (pe_op op_mul pe_int (pv 2)) (pv 3))) pa_nil)) (pg_name (i := 6) sc_L_net.nd rfl (Or.inl rfl))
      (pss_one (ps_expr (k_bm (K := K) rfl PySem.F.plainAttrs_list PySem.F.slot_list_append PySem.F.type_list_append mt_append (pv 5) (pa_cons (pe_call (ok_L_vector T) (hr.mono (by decide)) (by rfl) T.g_L_vector T.F_L_vector.kp T.b_L_vector .nil pass0 (pa_cons (pv 0) (pa_cons (pe_op op_mul (pv 6) (pv 2)) (pa_cons (pv 2) (pa_cons (pv 4) pa_nil))))) pa_nil)))))
      (pss_cons (ps_set (i := 7) sc_L_net.nd rfl (Or.inl rfl) (pe_lst pa_nil))
      (pss_cons (ps_for PassesOwn.never rfl (pi_range1 rfl T.z_range (pa_cons (pv 3) pa_nil)) (pg_name (i := 8) sc_L_net.nd rfl (Or.inl rfl))
      (pss_cons (ps_set (i := 9) sc_L_net.nd rfl (Or.inl rfl) (pe_lst pa_nil))
      (pss_cons (ps_for PassesOwn.never rfl (pi_range1 rfl T.z_range (pa_cons pe_int pa_nil)) (pg_name (i := 6) sc_L_net.nd rfl (Or.inl rfl))
      (pss_cons (ps_set (i := 10) sc_L_net.nd rfl (Or.inl rfl) (pe_op (k_addG (K := K) rfl) (pe_op (k_addG (K := K) rfl) (pe_op op_mul pe_int (pv 1)) pe_int) (pe_op op_mul (pv 2) (pe_op (k_addG (K := K) rfl) (pe_op op_mul pe_int (pv 8)) (pv 6)))))
      (pss_one (ps_expr (k_bm (K := K) rfl PySem.F.plainAttrs_list PySem.F.slot_list_append PySem.F.type_list_append mt_append (pv 9) (pa_cons (pe_callTy (k_tupS (K := K) rfl) (by rfl) T.z_tuple (by decide +kernel) (pa_cons (pe_slice (k_slG (K := K) rfl) (pv 5) (po_some (pv 10)) (po_some (pe_op (k_addG (K := K) rfl) (pv 10) (pv 2)))) pa_nil)) pa_nil))))))
      (pss_one (ps_expr (k_bm (K := K) rfl PySem.F.plainAttrs_list PySem.F.slot_list_append PySem.F.type_list_append mt_append (pv 7) (pa_cons (pe_callTy (k_tupS (K := K) rfl) (by rfl) T.z_tuple (by decide +kernel) (pa_cons (pv 9) pa_nil)) pa_nil)))))))
      (pss_one (ps_ret (pe_tup (pa_cons (pv 4) (pa_cons (pe_callTy (k_tupS (K := K) rfl) (by rfl) T.z_tuple (by decide +kernel) (pa_cons (pe_slice (k_slG (K := K) rfl) (pv 5) po_none (po_some (pv 1))) pa_nil)) (pa_cons (pe_ix (k_ix (K := K) rfl) (pv 5) (pe_op op_mul pe_int (pv 1)) (fun _ _ => rfl)) (pa_cons (pe_callTy (k_tupS (K := K) rfl) (by rfl) T.z_tuple (by decide +kernel) (pa_cons (pv 7) pa_nil)) (pa_cons (pe_callTy (k_tupS (K := K) rfl) (by rfl) T.z_tuple (by decide +kernel) (pa_cons (pe_slice (k_slG (K := K) rfl) (pv 5) (po_some (pv 1)) (po_some (pe_op op_mul pe_int (pv 1)))) pa_nil)) pa_nil)))))))))))), ?_⟩
    refine go_start (σ' := [some (.ref a), some (.int L), some (.int wd), some (.int m), some (.int p), none, none, none, none, none, none]) rfl ?_
    try dsimp only [cxOf, Cx.nox, Cx.wish]
    have hN : 0 ≤ 5 * wd * m ∧ 5 * wd * m ≤ 60 := by
      have h3 : m = 0 ∨ m = 1 ∨ m = 2 ∨ m = 3 := by omega
      rcases h3 with h | h | h | h <;> subst h <;> omega
    walk_at "go"
    refine ⟨Nat.zero_le _, fun D hD => ?_⟩
    walk_at "go"
    refine l_range (fun i σ H' => ∃ (M : Mat) (y6 : Option V), σ = [some (.ref a), some (.int L), some (.int wd), some (.int m), some (.int p), some (.ref D), y6, none, none, none, none] ∧ M.length = i ∧ MatOk p wd.toNat M ∧ Filled (RVec false K) H H' D M)
      (by omega) (by omega) ⟨[], none, rfl, rfl, List.forall_mem_nil _, Filled.nil hD⟩ ?_ ?_
    · rintro i σ H' hi ⟨M, y6, rfl, hl, hM, f⟩
      obtain ⟨ys, e1, hl1, _⟩ := f.at_
      have ht : 0 ≤ (i : Int) * wd ∧ (i : Int) * wd ≤ 1000000 := by
        have h3 : wd = 1 ∨ wd = 2 ∨ wd = 3 ∨ wd = 4 := by omega
        rcases h3 with h | h | h | h <;> subst h <;> omega
      walk_at "go"
      refine ⟨a, ns, b, _, wd, p, rfl, f.same.sq hS, hn0, hn1, ht.1, ht.2, by omega, by omega, p0, p1, fun v' H2 us s2 r2 hul hus => ?_⟩
      walk_at "go"
      have f2 := f.mono RVec.mono s2
      obtain ⟨ys2, e2, hl2, fp⟩ := f2.push (d := us) (RVec.tup _ _ _ _ (NTup.lst (s2 _ _ e1)) r2)
      refine w_append e2 (line_of (by rw [hl2]; omega)) ?_
      walk_at "go"
      refine ⟨M ++ [us], _, rfl, by rw [List.length_append, hl]; rfl, fun r hr => ?_, fp⟩
      rcases List.mem_append.mp hr with h | h
      · exact hM r h
      · rw [List.mem_singleton.mp h]; exact ⟨hul, hus⟩
    · rintro σ H1 ⟨M, y6, rfl, hMl, hM, f⟩
      obtain ⟨ys, e1, hyl, hyr⟩ := f.at_
      have hyr : ∀ (i : Nat) y d, ys[i]? = some y → M[i]? = some d → RVec false K H1 y d := fun i y d h1 h2 => RVec.mono _ _ _ _ (hide_same D H1) (hyr i y d h1 h2)
      have sH1 := f.same
      clear f
      walk_at "go"
      refine ⟨Nat.zero_le _, fun D2 hD2 => ?_⟩
      walk_at "go"
      refine l_range (fun i σ H' => ∃ (Ls : List (List Mat)) (y6 y8 y9 y10 : Option V), σ = [some (.ref a), some (.int L), some (.int wd), some (.int m), some (.int p), some (.ref D), y6, some (.ref D2), y8, y9, y10] ∧ Ls.length = i ∧ (∀ L ∈ Ls, L.length = 5 ∧ ∀ M ∈ L, M.length = wd.toNat ∧ MatOk p wd.toNat M) ∧ Filled (RSeq false K (RMat K)) H1 H' D2 Ls)
        (by omega) (by omega) ⟨[], _, _, _, _, rfl, rfl, List.forall_mem_nil _, Filled.nil hD2⟩ ?_ ?_
      · rintro i σ H2 hi ⟨Ls, y6, y8, y9, y10, rfl, hLl, hLs, f2⟩
        walk_at "go"
        refine ⟨Nat.zero_le _, fun D3 hD3 => ?_⟩
        walk_at "go"
        refine l_range (fun j σ H' => ∃ (Ms : List Mat) (y6 y10 : Option V), σ = [some (.ref a), some (.int L), some (.int wd), some (.int m), some (.int p), some (.ref D), y6, some (.ref D2), some (.int (i : Nat)), some (.ref D3), y10] ∧ Ms.length = j ∧ (∀ M ∈ Ms, M.length = wd.toNat ∧ MatOk p wd.toNat M) ∧ Filled (RMat K) H2 H' D3 Ms)
          (by omega) (by omega) ⟨[], _, _, rfl, rfl, List.forall_mem_nil _, Filled.nil hD3⟩ ?_ ?_
        · rintro j σ H3 hj ⟨Ms, y6, y10, rfl, hMsl, hMs, f3⟩
          obtain ⟨zs, e3, hzl, _⟩ := f3.at_
          have hf : 0 ≤ 2 * L + 1 + wd * (5 * (i : Int) + (j : Int)) ∧ 2 * L + 1 + wd * (5 * (i : Int) + (j : Int)) + wd ≤ (ys.length : Int) := by
            rw [hyl, hMl]
            have h3 : wd = 1 ∨ wd = 2 ∨ wd = 3 ∨ wd = 4 := by omega
            rcases h3 with h | h | h | h <;> subst h <;> omega
          have s13 := f2.same.trans f3.same
          have e1' := s13 _ _ e1
          walk_at "go"
          generalize 2 * L + 1 + wd * (5 * (i : Int) + (j : Int)) = fi at hf ⊢
          refine w_slC (Sq.lst e1') (cutV_int hf.1 (by omega) hf.2) fun q1 hq1 => ?_
          walk_at "go"
          have s4 := Same.new (o := .lst ((ys.drop fi.toNat).take ((fi + wd).toNat - fi.toNat))) hq1
          refine w_tupL (Sq.lst upd_same) fun q2 hq2 => ?_
          walk_at "go"
          have s5 := s4.trans (Same.new (o := .tup ((ys.drop fi.toNat).take ((fi + wd).toNat - fi.toNat))) hq2)
          have rM : RMat K (upd (upd H3 q1 (.lst ((ys.drop fi.toNat).take ((fi + wd).toNat - fi.toNat)))) q2 (.tup ((ys.drop fi.toNat).take ((fi + wd).toNat - fi.toNat)))) (.ref q2) ((M.drop fi.toNat).take ((fi + wd).toNat - fi.toNat)) :=
            ⟨q2, _, rfl, Sq.tup upd_same, by rw [List.length_take, List.length_take, List.length_drop, List.length_drop, hyl], rep_cut (fun i' y d h1 h2 => RVec.mono _ _ _ _ (s13.trans s5) (hyr i' y d h1 h2)) _ _⟩
          generalize upd (upd H3 q1 (.lst ((ys.drop fi.toNat).take ((fi + wd).toNat - fi.toNat)))) q2 (.tup ((ys.drop fi.toNat).take ((fi + wd).toNat - fi.toNat))) = H5 at s5 rM ⊢
          obtain ⟨zs2, e5, hl5, fp⟩ := (f3.mono RMat.mono s5).push (d := (M.drop fi.toNat).take ((fi + wd).toNat - fi.toNat)) (RMat.tup _ _ _ _ (NTup.lst (s5 _ _ e3)) rM)
          refine w_append e5 (line_of (by rw [hl5]; omega)) ?_
          walk_at "go"
          refine ⟨Ms ++ [_], _, _, rfl, by rw [List.length_append, hMsl]; rfl, fun M' hM' => ?_, fp⟩
          rcases List.mem_append.mp hM' with h | h
          · exact hMs M' h
          · rw [List.mem_singleton.mp h]
            refine ⟨?_, matok_cut hM _ _⟩
            rw [List.length_take, List.length_drop]
            omega
        · rintro σ H3 ⟨Ms, y6, y10, rfl, hMsl, hMs, f3⟩
          have f2' := f2.mono (RSeq.mono RMat.mono) f3.same
          obtain ⟨zs, e2, hzl, _⟩ := f2'.at_
          obtain ⟨a3, ms, ea, hm1, hm2, hm3⟩ := f3.seq RMat.mono (K := K)
          cases ea
          walk_at "go"
          refine w_tupL hm1 fun q2 hq2 => ?_
          walk_at "go"
          have s5 := Same.new (o := .tup ms) hq2
          obtain ⟨zs2, e5, hl5, fp⟩ := (f2'.mono (RSeq.mono RMat.mono) s5).push (d := Ms) (RSeq.tup RMat.tup _ _ _ _ (NTup.lst (s5 _ _ e2)) ⟨q2, ms, rfl, Sq.tup upd_same, hm2, fun i' y d h1 h2 => RMat.mono _ _ _ _ s5 (hm3 i' y d h1 h2)⟩)
          refine w_append e5 (line_of (by rw [hl5]; omega)) ?_
          walk_at "go"
          refine ⟨Ls ++ [Ms], _, _, _, _, rfl, by rw [List.length_append, hLl]; rfl, fun L' hL' => ?_, fp⟩
          rcases List.mem_append.mp hL' with h | h
          · exact hLs L' h
          · rw [List.mem_singleton.mp h]; exact ⟨by omega, hMs⟩
      · rintro σ H2 ⟨Ls, y6, y8, y9, y10, rfl, hLl, hLs, f2⟩
        have s12 := f2.same
        have e2 := s12 _ _ e1
        have hyl2 : (ys.length : Int) = 2 * L + 1 + 5 * wd * m := by rw [hyl, hMl]; omega
        obtain ⟨a3, ls, ea, hm1, hm2, hm3⟩ := f2.seq (RSeq.mono RMat.mono) (K := K)
        cases ea
        walk_at "go"
        refine w_slC (Sq.lst e2) (cutV_intTo (by omega) (by omega)) fun q1 hq1 => ?_
        walk_at "go"
        have t1 := Same.new (o := .lst (ys.take L.toNat)) hq1
        refine w_tupL (Sq.lst upd_same) fun q2 hq2 => ?_
        walk_at "go"
        have t2 := t1.trans (Same.new (o := .tup (ys.take L.toNat)) hq2)
        have r1 : RMat K (upd (upd H2 q1 (.lst (ys.take L.toNat))) q2 (.tup (ys.take L.toNat))) (.ref q2) (M.take L.toNat) :=
          ⟨q2, _, rfl, Sq.tup upd_same, by rw [List.length_take, List.length_take, hyl], rep_to (fun i' y d h1 h2 => RVec.mono _ _ _ _ (s12.trans t2) (hyr i' y d h1 h2)) _⟩
        generalize upd (upd H2 q1 (.lst (ys.take L.toNat))) q2 (.tup (ys.take L.toNat)) = H3 at t2 r1 ⊢
        have h2L : (2 * L).toNat < M.length := by omega
        have hsd : M[(2 * L).toNat]? = some (M[(2 * L).toNat]'h2L) := List.getElem?_eq_getElem h2L
        generalize M[(2 * L).toNat]'h2L = sh at hsd
        have hys : ys[(2 * L).toNat]? = some (ys[(2 * L).toNat]'(by omega)) := List.getElem?_eq_getElem (by omega)
        generalize ys[(2 * L).toNat]'(by omega) = ysh at hys
        have r2 := RVec.mono _ _ _ _ (s12.trans t2) (hyr _ _ _ hys hsd)
        refine w_ix (Sq.lst (t2 _ _ e2)) (v := ysh) (by rw [show (2 * L : Int) = (((2 * L).toNat : Nat) : Int) by omega]; exact atI_nat hys) ?_
        walk_at "go"
        refine w_tupL (t2.sq hm1) fun q3 hq3 => ?_
        walk_at "go"
        have t3 := t2.trans (Same.new (o := .tup ls) hq3)
        have r3 : RSeq false K (RSeq false K (RMat K)) (upd H3 q3 (.tup ls)) (.ref q3) Ls := ⟨q3, ls, rfl, Sq.tup upd_same, hm2, fun i' y d h1 h2 => RSeq.mono RMat.mono _ _ _ _ t3 (hm3 i' y d h1 h2)⟩
        have r1 := RMat.mono _ _ _ _ (Same.new (o := .tup ls) hq3) r1
        have r2 := RVec.mono _ _ _ _ (Same.new (o := .tup ls) hq3) r2
        generalize upd H3 q3 (.tup ls) = H4 at t3 r3 r1 r2 ⊢
        refine w_slC (Sq.lst (t3 _ _ e2)) (cutV_int (by omega) (by omega) (by omega)) fun q4 hq4 => ?_
        walk_at "go"
        have t4 := Same.new (o := .lst ((ys.drop L.toNat).take ((2 * L).toNat - L.toNat))) hq4
        refine w_tupL (Sq.lst upd_same) fun q5 hq5 => ?_
        walk_at "go"
        have t5 := t4.trans (Same.new (o := .tup ((ys.drop L.toNat).take ((2 * L).toNat - L.toNat))) hq5)
        have r4 : RMat K (upd (upd H4 q4 (.lst ((ys.drop L.toNat).take ((2 * L).toNat - L.toNat)))) q5 (.tup ((ys.drop L.toNat).take ((2 * L).toNat - L.toNat)))) (.ref q5) ((M.drop L.toNat).take ((2 * L).toNat - L.toNat)) :=
          ⟨q5, _, rfl, Sq.tup upd_same, by rw [List.length_take, List.length_take, List.length_drop, List.length_drop, hyl], rep_cut (fun i' y d h1 h2 => RVec.mono _ _ _ _ ((s12.trans t3).trans t5) (hyr i' y d h1 h2)) _ _⟩
        generalize upd (upd H4 q4 (.lst ((ys.drop L.toNat).take ((2 * L).toNat - L.toNat)))) q5 (.tup ((ys.drop L.toNat).take ((2 * L).toNat - L.toNat))) = H5 at t5 r4 ⊢
        refine ⟨(by show 5 ≤ sizeLine; decide), fun q6 hq6 => ?_⟩
        walk_at "go"
        have t6 := Same.new (o := .tup [.int p, .ref q2, ysh, .ref q3, .ref q5]) hq6
        have t56 := t5.trans t6
        have hel : (M.take L.toNat).length = L.toNat := by rw [List.length_take]; omega
        have hol : ((M.drop L.toNat).take ((2 * L).toNat - L.toNat)).length = L.toNat := by rw [List.length_take, List.length_drop]; omega
        refine k _ _ ⟨p, M.take L.toNat, sh, Ls, (M.drop L.toNat).take ((2 * L).toNat - L.toNat)⟩ (((sH1.trans s12).trans t3).trans t56)
          ⟨q6, _, _, _, _, rfl, Sq.tup upd_same, RMat.mono _ _ _ _ t56 r1, RVec.mono _ _ _ _ t56 r2, RSeq.mono (RSeq.mono RMat.mono) _ _ _ _ t56 r3, RMat.mono _ _ _ _ t6 r4⟩
          ⟨p0, p1, by omega, matok_cut hM 0 _, hM _ (List.mem_of_getElem? hsd), hLs, matok_cut hM _ _, by rw [hel]; omega, by rw [hol]; omega, by show Ls.length ≤ 3; omega⟩ rfl (by show ((M.take L.toNat).length : Int) = L; rw [hel]; omega) (by show ((M.drop L.toNat).take _).length = (M.take L.toNat).length; rw [hel, hol]) (by show (Ls.length : Int) = m; omega)

/-! ### _law_row, _law_rows -/
def sp_L_row (K : PySem.W.Frag) : Sp := fun vs H Q _ => ∃ (v v2 : V) (nd : NetD) (rows : List RowD) (l w : Nat), vs = [v, v2, .int (l : Nat)] ∧ RNet K H v nd ∧ NetOk nd w ∧ RSeq true K (RRow K) H v2 rows ∧ (∀ r ∈ rows, RowOk nd w r) ∧ rows.length ≤ 1000 ∧ l < nd.emb.length ∧
  ∀ v' H', Same H H' → RRow K H' v' (rowD nd rows l) → Q v' H'
theorem lstep_len (p : Int) (asked x : List Int) (o : PairD) : (lstep p asked x o).length = x.length := by
  unfold lstep
  rw [List.length_map, List.length_range]
theorem lfold_len {p : Int} {asked : List Int} : ∀ {prs : List PairD} {x : List Int}, (prs.foldl (lstep p asked) x).length = x.length
  | [], x => rfl
  | o :: r, x => by
    show (r.foldl (lstep p asked) (lstep p asked x o)).length = x.length
    rw [lfold_len, lstep_len]
theorem ok_L_row (T : Txt K mg) : FnOk P w K mg base CX0 3 T.a_L_row T.d_L_row ["_law_net_here", "_law_rows", "_law_letter"] (sp_L_row K) := by
  refine T.F_L_row.ok sc_L_row (fun vs H Q E h => ?_) (fun cdv A outer s H vs Q E hr h => ?_)
  · obtain ⟨_, _, _, _, _, _, rfl, _⟩ := h
    rfl
  · obtain ⟨v, v2, nd, rows, l, wd, rfl, hN, ok, ⟨ar, rvs, rfl, hR, hRl, hRr⟩, hro, hrz, hl, k⟩ := h
    have hp0 : 0 < nd.p := by have := ok.p2; omega
    have w4 := ok.w4
    have p97 := ok.p97
    obtain ⟨an, v1, v2, v3, v4, rfl, hN1, hE, ⟨ash, rfl, hSh⟩, hLay, hOut⟩ := hN
    obtain ⟨ae, evs, rfl, hE1, hEl, hEr⟩ := hE
    obtain ⟨al, lvs, rfl, hL1, hLl, hLr⟩ := hLay
    obtain ⟨ao, ovs, rfl, hO1, hOl, hOr⟩ := hOut
    refine ⟨_, (pss_cons (ps_set (i := 3) sc_L_row.nd rfl (Or.inr rfl) (pe_ix (k_ix (K := K) rfl) (pv 0) pe_int (fun _ _ => rfl)))
      (pss_cons (ps_set (i := 4) sc_L_row.nd rfl (Or.inr rfl) (pe_lc (own := [("_law_k", 14)]) (g := gName 14) (tt := tYes) rfl sc_L_row.nd (pi_range1 rfl T.z_range (pa_cons (pe_callB (k_lenS (K := K) rfl) (by rfl) T.z_len (by decide +kernel) (pa_cons (pe_ix (k_ix (K := K) rfl) (pv 0) pe_int (fun _ _ => rfl)) pa_nil)) pa_nil)) (blkOk_by (own := [("_law_k", 14)]) (by kernel_rfl)) (fun _ _ _ _ _ => (pg_name (i := 14) sc_L_row.nd rfl (by first | exact Or.inl rfl | exact Or.inr rfl))) (fun _ _ _ _ _ => pts_nil) (fun _ _ _ _ _ => (pe_op op_mod (pe_callTy cr_int1 (by rfl) T.z_int (by decide +kernel) (pa_cons (pe_op (k_addG (K := K) rfl) (pe_ix (k_ix (K := K) rfl) (pe_ix (k_ix (K := K) rfl) (pe_ix (k_ix (K := K) rfl) (pv 0) pe_int (fun _ _ => rfl)) (pv 2) (fun _ _ => rfl)) (pv 14) (fun _ _ => rfl)) (pe_op op_mul (pe_callB (k_lenS (K := K) rfl) (by rfl) T.z_len (by decide +kernel) (pa_cons (pv 1) pa_nil)) (pe_ix (k_ix (K := K) rfl) (pe_ix (k_ix (K := K) rfl) (pv 0) pe_int (fun _ _ => rfl)) (pv 14) (fun _ _ => rfl)))) pa_nil)) (pv 3)))))
      (pss_cons (ps_set (i := 5) sc_L_row.nd rfl (Or.inl rfl) (pe_lst pa_nil))
      (pss_cons (ps_for PassesOwn.never rfl (pi_range1 rfl T.z_range (pa_cons (pe_callB (k_lenS (K := K) rfl) (by rfl) T.z_len (by decide +kernel) (pa_cons (pe_ix (k_ix (K := K) rfl) (pv 0) pe_int (fun _ _ => rfl)) pa_nil)) pa_nil)) (pg_name (i := 6) sc_L_row.nd rfl (Or.inr rfl))
      (pss_cons (ps_set (i := 7) sc_L_row.nd rfl (Or.inl rfl) (pe_ix (k_ix (K := K) rfl) (pe_ix (k_ix (K := K) rfl) (pv 0) pe_int (fun _ _ => rfl)) (pv 6) (fun _ _ => rfl)))
      (pss_cons (ps_set (i := 8) sc_L_row.nd rfl (Or.inl rfl) (pe_call (ok_L_times T) (hr.mono (by decide)) (by rfl) T.g_L_times T.F_L_times.kp T.b_L_times .nil pass0 (pa_cons (pe_ix (k_ix (K := K) rfl) (pv 7) pe_int (fun _ _ => rfl)) (pa_cons (pv 4) (pa_cons (pv 3) pa_nil)))))
      (pss_cons (ps_set (i := 9) sc_L_row.nd rfl (Or.inl rfl) (pe_tup (pa_cons (pe_callTy (k_tupS (K := K) rfl) (by rfl) T.z_tuple (by decide +kernel) (pa_cons (pe_call (ok_L_times T) (hr.mono (by decide)) (by rfl) T.g_L_times T.F_L_times.kp T.b_L_times .nil pass0 (pa_cons (pe_ix (k_ix (K := K) rfl) (pv 7) pe_int (fun _ _ => rfl)) (pa_cons (pv 4) (pa_cons (pv 3) pa_nil)))) pa_nil)) (pa_cons (pe_callTy (k_tupS (K := K) rfl) (by rfl) T.z_tuple (by decide +kernel) (pa_cons (pe_call (ok_L_times T) (hr.mono (by decide)) (by rfl) T.g_L_times T.F_L_times.kp T.b_L_times .nil pass0 (pa_cons (pe_ix (k_ix (K := K) rfl) (pv 7) pe_int (fun _ _ => rfl)) (pa_cons (pv 4) (pa_cons (pv 3) pa_nil)))) pa_nil)) pa_nil))))
      (pss_cons (ps_for PassesOwn.never rfl (k_seqS (K := K) rfl (pe_op (k_addG (K := K) rfl) (pe_lc (own := [("_law_row_here", 16)]) (g := gName 16) (tt := tYes) rfl sc_L_row.nd (k_seqS (K := K) rfl (pv 1)) (blkOk_by (own := [("_law_row_here", 16)]) (by kernel_rfl)) (fun _ _ _ _ _ => (pg_name (i := 16) sc_L_row.nd rfl (by first | exact Or.inl rfl | exact Or.inr rfl))) (fun _ _ _ _ _ => pts_nil) (fun _ _ _ _ _ => (pe_ix (k_ix (K := K) rfl) (pe_ix (k_ix (K := K) rfl) (pv 16) pe_int (fun _ _ => rfl)) (pv 6) (fun _ _ => rfl)))) (pe_lst (pa_cons (pv 9) pa_nil)))) (pg_name (i := 10) sc_L_row.nd rfl (Or.inr rfl))
      (pss_cons (ps_set (i := 11) sc_L_row.nd rfl (Or.inr rfl) (pe_call (ok_L_dot T) (hr.mono (by decide)) (by rfl) T.g_L_dot T.F_L_dot.kp T.b_L_dot .nil pass0 (pa_cons (pv 8) (pa_cons (pe_ix (k_ix (K := K) rfl) (pv 10) pe_int (fun _ _ => rfl)) (pa_cons (pv 3) pa_nil)))))
      (pss_one (ps_set (i := 4) sc_L_row.nd rfl (Or.inr rfl) (pe_lc (own := [("_law_k", 14)]) (g := gName 14) (tt := tYes) rfl sc_L_row.nd (pi_range1 rfl T.z_range (pa_cons (pe_callB (k_lenS (K := K) rfl) (by rfl) T.z_len (by decide +kernel) (pa_cons (pv 4) pa_nil)) pa_nil)) (blkOk_by (own := [("_law_k", 14)]) (by kernel_rfl)) (fun _ _ _ _ _ => (pg_name (i := 14) sc_L_row.nd rfl (by first | exact Or.inl rfl | exact Or.inr rfl))) (fun _ _ _ _ _ => pts_nil) (fun _ _ _ _ _ => (pe_op op_mod (pe_callTy cr_int1 (by rfl) T.z_int (by decide +kernel) (pa_cons (pe_op (k_addG (K := K) rfl) (pe_ix (k_ix (K := K) rfl) (pv 4) (pv 14) (fun _ _ => rfl)) (pe_op op_mul (pv 11) (pe_ix (k_ix (K := K) rfl) (pe_ix (k_ix (K := K) rfl) (pv 10) pe_int (fun _ _ => rfl)) (pv 14) (fun _ _ => rfl)))) pa_nil)) (pv 3))))))))
      (pss_cons (ps_setLc (i := 12) (own := [("_law_one", 15)]) (g := gName 15) (tt := tYes) rfl sc_L_row.nd rfl rfl (sw_true rfl rfl rfl (by decide +kernel)) (k_seqS (K := K) rfl (pe_call (ok_L_times T) (hr.mono (by decide)) (by rfl) T.g_L_times T.F_L_times.kp T.b_L_times .nil pass0 (pa_cons (pe_ix (k_ix (K := K) rfl) (pv 7) pe_int (fun _ _ => rfl)) (pa_cons (pv 4) (pa_cons (pv 3) pa_nil))))) (blkOk_by (own := [("_law_one", 15)]) (by kernel_rfl)) (fun _ _ _ _ _ => (pg_name (i := 15) sc_L_row.nd rfl (by first | exact Or.inl rfl | exact Or.inr rfl))) (fun _ _ _ _ _ => pts_nil) (fun _ _ _ _ _ => (pe_op op_mul (pv 15) (pv 15))))
      (pss_cons (ps_set (i := 13) sc_L_row.nd rfl (Or.inr rfl) (pe_call (ok_L_times T) (hr.mono (by decide)) (by rfl) T.g_L_times T.F_L_times.kp T.b_L_times .nil pass0 (pa_cons (pe_ix (k_ix (K := K) rfl) (pv 7) pe_int (fun _ _ => rfl)) (pa_cons (pv 12) (pa_cons (pv 3) pa_nil)))))
      (pss_cons (ps_set (i := 4) sc_L_row.nd rfl (Or.inr rfl) (pe_lc (own := [("_law_k", 14)]) (g := gName 14) (tt := tYes) rfl sc_L_row.nd (pi_range1 rfl T.z_range (pa_cons (pe_callB (k_lenS (K := K) rfl) (by rfl) T.z_len (by decide +kernel) (pa_cons (pv 4) pa_nil)) pa_nil)) (blkOk_by (own := [("_law_k", 14)]) (by kernel_rfl)) (fun _ _ _ _ _ => (pg_name (i := 14) sc_L_row.nd rfl (by first | exact Or.inl rfl | exact Or.inr rfl))) (fun _ _ _ _ _ => pts_nil) (fun _ _ _ _ _ => (pe_op op_mod (pe_callTy cr_int1 (by rfl) T.z_int (by decide +kernel) (pa_cons (pe_op (k_addG (K := K) rfl) (pe_ix (k_ix (K := K) rfl) (pv 4) (pv 14) (fun _ _ => rfl)) (pe_ix (k_ix (K := K) rfl) (pv 13) (pv 14) (fun _ _ => rfl))) pa_nil)) (pv 3)))))
      (pss_one (ps_expr (k_bm (K := K) rfl PySem.F.plainAttrs_list PySem.F.slot_list_append PySem.F.type_list_append mt_append (pv 5) (pa_cons (pv 9) pa_nil))))))))))))
      (pss_one (ps_ret (pe_tup (pa_cons (pe_callTy (k_tupS (K := K) rfl) (by rfl) T.z_tuple (by decide +kernel) (pa_cons (pv 5) pa_nil)) (pa_cons (pe_callTy (k_tupS (K := K) rfl) (by rfl) T.z_tuple (by decide +kernel) (pa_cons (pe_lc (own := [("_law_one", 15)]) (g := gName 15) (tt := tYes) rfl sc_L_row.nd (k_seqS (K := K) rfl (pe_ix (k_ix (K := K) rfl) (pv 0) pe_int (fun _ _ => rfl))) (blkOk_by (own := [("_law_one", 15)]) (by kernel_rfl)) (fun _ _ _ _ _ => (pg_name (i := 15) sc_L_row.nd rfl (by first | exact Or.inl rfl | exact Or.inr rfl))) (fun _ _ _ _ _ => pts_nil) (fun _ _ _ _ _ => (pe_op (k_addG (K := K) rfl) (pe_call (ok_L_dot T) (hr.mono (by decide)) (by rfl) T.g_L_dot T.F_L_dot.kp T.b_L_dot .nil pass0 (pa_cons (pv 15) (pa_cons (pv 4) (pa_cons (pv 3) pa_nil)))) pe_int))) pa_nil)) pa_nil))))))))), ?_⟩
    refine go_start (σ' := [some (.ref an), some (.ref ar), some (.int (l : Nat)), none, none, none, none, none, none, none, none, none, none, none, none, none, none]) rfl ?_
    try dsimp only [cxOf, Cx.nox, Cx.wish]
    have hel : nd.emb[l]? = some (nd.emb.getD l []) := by
      rw [List.getD_eq_getElem?_getD, List.getElem?_eq_getElem hl]
      rfl
    obtain ⟨ye, hye, ⟨aye, rfl, hye2⟩⟩ := RSeq.get hEl hEr hel
    have hew : (nd.emb.getD l []).length = wd := (ok.emb _ (List.mem_of_getElem? hel)).1
    have hsl := ok.sh.1
    have hx0 := startX_ok ok (rows := rows) hl
    have hxs : startX nd rows l = vplus nd.p (nd.emb.getD l []) (nd.sh.map fun n => (rows.length : Int) * n) := rfl
    walk_at "go"
    refine w_ix hN1 (atI_nat (j := 0) rfl) ?_
    walk_at "go"
    refine w_ix hN1 (atI_nat (j := 2) rfl) ?_
    walk_at "go"
    refine c_intsR (by omega) (by omega) (startX nd rows l) (by rw [hx0.1, hsl]; omega) (fun _ => rfl) (fun i H1 N hi sm hN2 => ?_) (fun ax0 H1 hax0 s1 e1 => ?_)
    · walk_at "go"
      refine w_ix (sm.sq hN1) (atI_nat (j := 1) rfl) ?_
      walk_at "go"
      refine w_ix (sm.sq hE1) (atI_nat hye) ?_
      walk_at "go"
      refine w_ix (sm.sq hN1) (atI_nat (j := 2) rfl) ?_
      walk_at "go"
      have en : nth (startX nd rows l) ((i : Nat) : Int) = (nth (nd.emb.getD l []) (i : Nat) + (rows.length : Int) * nth nd.sh (i : Nat)) % nd.p := by
        rw [hxs]
        unfold vplus
        rw [nth_zip (by omega) (by rw [List.length_map]; omega), nth_map (by omega)]
      rw [hRl, ← en]
      exact hN2 _ (Same.refl _)
    walk_at "go"
    refine ⟨Nat.zero_le _, fun D hD => ?_⟩
    have n1 : ax0 ≠ D := ne_of_none e1 hD
    have e1' : (upd H1 D (.lst [])) ax0 = some (.lst ((startX nd rows l).map V.int)) := (upd_ne n1).trans e1
    have s1' : Same H (upd H1 D (.lst [])) := s1.trans (Same.new hD)
    walk_at "go"
    refine w_ix (s1'.sq hN1) (atI_nat (j := 3) rfl) ?_
    walk_at "go"
    refine l_range (fun i σ H' => ∃ (ax : Addr) (y6 y7 y8 y9 y10 y11 y12 y13 : Option V), σ = [some (.ref an), some (.ref ar), some (.int (l : Nat)), some (.int nd.p), some (.ref ax), some (.ref D), y6, y7, y8, y9, y10, y11, y12, y13, none, none, none] ∧ ax ≠ D ∧
        H' ax = some (.lst ((rowSt nd rows (startX nd rows l) i).2.map V.int)) ∧ Filled (RPr K) H1 H' D (rowSt nd rows (startX nd rows l) i).1)
      (by have := ok.l3; omega) (by have := ok.l3; omega) ⟨ax0, none, none, none, none, none, none, none, none, rfl, n1, e1', Filled.nil hD⟩ ?_ ?_
    · rintro i σ H' hi ⟨ax, y6, y7, y8, y9, y10, y11, y12, y13, rfl, nax, hxv, f⟩
      have hi' : i < nd.lay.length := by omega
      have hL : nd.lay[i]? = some (nd.lay.getD i []) := by
        rw [List.getD_eq_getElem?_getD, List.getElem?_eq_getElem hi']
        rfl
      generalize eL : nd.lay.getD i [] = L at hL
      obtain ⟨hL5, hLm⟩ := ok.lay L (List.mem_of_getElem? hL)
      obtain ⟨st1, st2, st3, st4⟩ := rowSt_ok ok hro hx0 i (by omega)
      generalize ex : (rowSt nd rows (startX nd rows l) i).2 = x at hxv st3 st4
      have s3 := s1.trans f.same
      obtain ⟨yl, hyl, hy5⟩ := RSeq.get hLl hLr hL
      have hy5 := RSeq.mono RMat.mono _ _ _ _ s3 hy5
      rw [five_of hL5] at hy5
      obtain ⟨a5, q0, q1, q2, q3, q4, rfl, h5, m0, m1, m2, m3, m4⟩ := RSeq.five hy5
      have hM : ∀ j : Nat, j < 5 → (mt L j).length = wd ∧ MatOk nd.p wd (mt L j) := fun j hj => (mt_ok ⟨hL5, hLm⟩ hj).2
      have hx3 : RVecX K H' (.ref ax) x := ⟨true, ax, rfl, Sq.lst hxv⟩
      walk_at "go"
      refine w_ix (s3.sq hN1) (atI_nat (j := 3) rfl) ?_
      walk_at "go"
      refine w_ix (s3.sq hL1) (atI_nat hyl) ?_
      walk_at "go"
      refine w_ix h5 (atI_nat (j := 0) rfl) ?_
      walk_at "go"
      refine ⟨_, _, _, x, _, rfl, m0, hx3, mat_bd p97 (hM 0 (by omega)).2 st3, by rw [(hM 0 (by omega)).1]; omega, by omega, hp0, fun Dq H4 hDq s4 eq4 => ?_⟩
      walk_at "go"
      -- pair
      refine w_ix (s4.sq h5) (atI_nat (j := 1) rfl) ?_
      walk_at "go"
      refine ⟨_, _, _, x, _, rfl, RMat.mono _ _ _ _ s4 m1, RVecX.mono _ _ _ _ s4 hx3, mat_bd p97 (hM 1 (by omega)).2 st3, by rw [(hM 1 (by omega)).1]; omega, by omega, hp0, fun Dk H5 hDk s5 ek => ?_⟩
      walk_at "go"
      refine w_tupL (Sq.lst ek) fun tk htk => ?_
      have s6 := Same.new (o := .tup ((vtimes nd.p (mt L 1) x).map V.int)) htk
      have rk : RVec false K (upd H5 tk (.tup ((vtimes nd.p (mt L 1) x).map V.int))) (.ref tk) (vtimes nd.p (mt L 1) x) := ⟨tk, rfl, Sq.tup upd_same⟩
      have s46 := (s4.trans s5).trans s6
      generalize upd H5 tk (.tup ((vtimes nd.p (mt L 1) x).map V.int)) = H6 at s6 rk s46 ⊢
      walk_at "go"
      refine w_ix (s46.sq h5) (atI_nat (j := 2) rfl) ?_
      walk_at "go"
      refine ⟨_, _, _, x, _, rfl, RMat.mono _ _ _ _ s46 m2, RVecX.mono _ _ _ _ s46 hx3, mat_bd p97 (hM 2 (by omega)).2 st3, by rw [(hM 2 (by omega)).1]; omega, by omega, hp0, fun Dv H7 hDv s7 ev => ?_⟩
      walk_at "go"
      refine w_tupL (Sq.lst ev) fun tv htv => ?_
      have s8 := Same.new (o := .tup ((vtimes nd.p (mt L 2) x).map V.int)) htv
      have rv : RVec false K (upd H7 tv (.tup ((vtimes nd.p (mt L 2) x).map V.int))) (.ref tv) (vtimes nd.p (mt L 2) x) := ⟨tv, rfl, Sq.tup upd_same⟩
      have rk := RVec.mono _ _ _ _ (s7.trans s8) rk
      have s48 := s46.trans (s7.trans s8)
      have eq8 := ((s5.trans s6).trans (s7.trans s8)) _ _ eq4
      generalize upd H7 tv (.tup ((vtimes nd.p (mt L 2) x).map V.int)) = H8 at rv rk s48 eq8 ⊢
      walk_at "go"
      refine ⟨(by show 2 ≤ sizeLine; decide), fun ap hap => ?_⟩
      walk_at "go"
      have s9 : Same H8 (upd H8 ap (.tup [.ref tk, .ref tv])) := Same.new hap
      have hpair : RPr K (upd H8 ap (.tup [.ref tk, .ref tv])) (.ref ap) (pairOf nd.p L x) := ⟨ap, _, _, rfl, Sq.tup upd_same, RVec.mono _ _ _ _ s9 rk, RVec.mono _ _ _ _ s9 rv⟩
      have s49 := s48.trans s9
      have eq9 := s9 _ _ eq8
      generalize upd H8 ap (.tup [.ref tk, .ref tv]) = H9 at s9 hpair s49 eq9 ⊢
      have s09 := s3.trans s49
      -- the pairs looked at
      refine c_rep (R := RPr K) RPr.mono RPr.tup rvs (s09.sq hR) (prsAt rows i) (by unfold prsAt; rw [List.length_map, hRl]) (line_of (by omega)) (fun _ => rfl) (fun j z d H10 N hj hz hd s10 hN2 => ?_) (fun D7 H10 ys hD7 s10 e10 hyl2 hyr2 => ?_)
      · have hrj : rows[j]? = some (rows[j]'(by omega)) := List.getElem?_eq_getElem (by omega)
        generalize rows[j]'(by omega) = r at hrj
        have ed : d = r.1.getD i ([], []) := by
          unfold prsAt at hd
          rw [List.getElem?_map, hrj] at hd
          exact (Option.some.inj hd).symm
        obtain ⟨az, z1, z2, rfl, hz1, ⟨ap1, pvs, rfl, hp1, hpl, hpr⟩, _⟩ := RRow.mono _ _ _ _ (s09.trans s10) (hRr j z r hz hrj)
        have hr1 : r.1[i]? = some (r.1.getD i ([], [])) := by
          rw [List.getD_eq_getElem?_getD, List.getElem?_eq_getElem (by rw [(hro r (List.mem_of_getElem? hrj)).1]; exact hi')]
          rfl
        obtain ⟨yp, hyp, rp⟩ := RSeq.get hpl hpr hr1
        walk_at "go"
        refine w_ix hz1 (atI_nat (j := 0) rfl) ?_
        walk_at "go"
        refine w_ix hp1 (atI_nat hyp) ?_
        exact hN2 _ _ (Same.refl _) (by rw [ed]; exact rp)
      walk_at "go"
      refine ⟨(by show 1 ≤ sizeLine; decide), fun b1 hb1 => ?_⟩
      have s11 := s10.trans (Same.new (o := .lst [.ref ap]) hb1)
      have hlen7 : ys.length = rows.length := by rw [hyl2]; exact List.length_map ..
      refine w_catLL (Same.at (Same.new hb1) e10) upd_same (by rw [sizeLine_eq]; simp only [List.length_cons, List.length_nil]; omega) fun b2 hb2 => ?_
      have s12 := s11.trans (Same.new (o := .lst (ys ++ [.ref ap])) hb2)
      have hprs : RSeq true K (RPr K) (upd (upd H10 b1 (.lst [.ref ap])) b2 (.lst (ys ++ [.ref ap]))) (.ref b2) (prsAt rows i ++ [pairOf nd.p L x]) := by
        refine ⟨b2, _, rfl, Sq.lst upd_same, by rw [List.length_append, List.length_append, hyl2]; rfl, fun j y' d' h1 h2 => ?_⟩
        by_cases hj : j < ys.length
        · rw [List.getElem?_append_left hj] at h1
          rw [List.getElem?_append_left (by omega)] at h2
          exact RPr.mono _ _ _ _ ((Same.new hb1).trans (Same.new hb2)) (hyr2 j y' d' h1 h2)
        · have h3 := (List.getElem?_eq_some_iff.mp h1).1
          rw [List.length_append] at h3
          have ej : j = ys.length := by
            have : j < ys.length + 1 := h3
            omega
          subst ej
          rw [List.getElem?_append_right (Nat.le_refl _), Nat.sub_self] at h1
          rw [hyl2, List.getElem?_append_right (Nat.le_refl _), Nat.sub_self] at h2
          cases h1
          cases h2
          exact RPr.mono _ _ _ _ s12 hpair
      generalize upd (upd H10 b1 (.lst [.ref ap])) b2 (.lst (ys ++ [.ref ap])) = H12 at s12 hprs ⊢
      have hprok := prsAt_ok hro (i := i) hi'
      have hpo := pairOf_ok (x := x) hp0 ⟨hL5, hLm⟩
      have hall : ∀ o ∈ prsAt rows i ++ [pairOf nd.p L x], PairOk nd.p wd o := fun o ho => by
        rcases List.mem_append.mp ho with h | h
        · exact hprok o h
        · rw [List.mem_singleton.mp h]; exact hpo
      have hml := mid_law hp0 ⟨hL5, hLm⟩ hprok ⟨st3, st4⟩
      have hal : (vtimes nd.p (mt L 0) x).length = wd := by rw [vtimes_len]; exact (hM 0 (by omega)).1
      have hab := (vtimes_sml hp0 (mt L 0) x).bd p97
      generalize hask : vtimes nd.p (mt L 0) x = asked at hml hal hab eq9 ⊢
      generalize hpp : prsAt rows i ++ [pairOf nd.p L x] = prs at hprs hall hml ⊢
      have s312 := s49.trans s12
      have s012 := s3.trans s312
      have eq12 := s12 _ _ eq9
      have hx12 := s312 _ _ hxv
      have f12 := f.mono RPr.mono s312
      obtain ⟨ab, bvs, eab, hb1s, hbl, hbr⟩ := hprs
      cases eab
      walk_at "go"
      refine l_seq (b := true) bvs (fun j σ H' => ∃ (ax' : Addr) (y10 y11 : Option V), σ = [some (.ref an), some (.ref ar), some (.int (l : Nat)), some (.int nd.p), some (.ref ax'), some (.ref D), some (.int (i : Nat)), some (.ref a5), some (.ref Dq), some (.ref ap), y10, y11, y12, y13, none, none, none] ∧ ax' ≠ D ∧
          H' ax' = some (.lst (((prs.take j).foldl (lstep nd.p asked) x).map V.int)) ∧ Same H12 H')
        hb1s ⟨ax, _, _, rfl, nax, by rw [List.take_zero]; exact hx12, Same.refl _⟩ (fun j σ H' _ ⟨_, _, _, _, _, _, sm⟩ => sm.sq hb1s) ?_ ?_
      · rintro j y σ H' hj hyj ⟨ax', y10, y11, rfl, nax', hxj, sm⟩
        have hoj : prs[j]? = some (prs[j]'(by omega)) := List.getElem?_eq_getElem (by omega)
        generalize prs[j]'(by omega) = o at hoj
        obtain ⟨ho1, ho2⟩ := hall o (List.mem_of_getElem? hoj)
        obtain ⟨ay, k1, k2, rfl, hay, ⟨ak1, rfl, hk1⟩, ⟨ak2, rfl, hk2⟩⟩ := RPr.mono _ _ _ _ sm (hbr j y o hyj hoj)
        generalize hcur : (prs.take j).foldl (lstep nd.p asked) x = cur at hxj
        have hcl : cur.length = wd := by rw [← hcur, lfold_len, st3]
        walk_at "go"
        refine w_ix hay (atI_nat (j := 0) rfl) ?_
        walk_at "go"
        refine ⟨_, _, asked, o.1, _, rfl, ⟨true, Dq, rfl, Sq.lst (sm _ _ eq12)⟩, ⟨false, ak1, rfl, hk1⟩, by rw [hal, ho1.1], by omega, hab, hp0, ?_⟩
        have hn0 : 0 ≤ dot asked o.1 % nd.p := Int.emod_nonneg _ (by omega)
        have hn1 : dot asked o.1 % nd.p < nd.p := Int.emod_lt_of_pos _ hp0
        have hld : ldot nd.p asked o.1 = dot asked o.1 % nd.p := ldot_eq (by rw [hal, ho1.1])
        rw [← hld] at hn0 hn1 ⊢
        generalize hnr : ldot nd.p asked o.1 = near at hn0 hn1 ⊢
        walk_at "go"
        refine c_intsR (by omega) (by omega) (lstep nd.p asked cur o) (by rw [lstep_len]; omega) (fun _ => rfl) (fun i2 H13 N hi2 s13 hN2 => ?_) (fun ax2 H13 hax2 s13 e13 => ?_)
        · have ho2l := ho2.1
          walk_at "go"
          refine w_ix (s13.sq hay) (atI_nat (j := 1) rfl) ?_
          walk_at "go"
          have en : nth (lstep nd.p asked cur o) ((i2 : Nat) : Int) = (nth cur (i2 : Nat) + near * nth o.2 (i2 : Nat)) % nd.p := by
            unfold lstep
            rw [nth_range (by omega), hnr]
          rw [← en]
          exact hN2 _ (Same.refl _)
        walk_at "go"
        obtain ⟨fys, fe, _, _⟩ := (f12.mono RPr.mono sm).at_
        refine ⟨ax2, _, _, rfl, (ne_of_none fe hax2).symm, ?_, sm.trans s13⟩
        rw [List.take_add_one, hoj]
        show H13 ax2 = some (HO.lst (((prs.take j ++ [o]).foldl (lstep nd.p asked) x).map V.int))
        rw [List.foldl_append, hcur]
        exact e13
      · rintro σ H13 ⟨ax', y10, y11, rfl, nax', hxj, s13⟩
        rw [hbl, List.take_length, hml] at hxj
        have hmidl := midOf_len (x := x) hp0 ⟨hL5, hLm⟩ hprok st3
        generalize hmd : midOf nd.p L (prsAt rows i) x = mid at hxj hmidl
        have s313 := s312.trans s13
        have hx13 : RVecX K H13 (.ref ax') mid := ⟨true, ax', rfl, Sq.lst hxj⟩
        walk_at "go"
        refine w_ix (s313.sq h5) (atI_nat (j := 3) rfl) ?_
        walk_at "go"
        refine ⟨_, _, _, mid, _, rfl, RMat.mono _ _ _ _ s313 m3, hx13, mat_bd p97 (hM 3 (by omega)).2 hmidl, by rw [(hM 3 (by omega)).1]; omega, by omega, hp0, fun Df H14 hDf s14 e14 => ?_⟩
        have hfl : (vtimes nd.p (mt L 3) mid).length = wd := by rw [vtimes_len]; exact (hM 3 (by omega)).1
        have hsq : sqOf nd.p L mid = (vtimes nd.p (mt L 3) mid).map fun a => a * a := rfl
        have hfb := (vtimes_sml (p := nd.p) hp0 (mt L 3) mid).bd p97
        generalize hfv : vtimes nd.p (mt L 3) mid = fv at hfl hsq hfb e14
        walk_at "go"
        refine c_ints (fv.map V.int) (Sq.lst e14) (sqOf nd.p L mid) (by rw [hsq, List.length_map, List.length_map]) (line_of (by rw [List.length_map]; omega)) (fun _ => rfl) (fun j z H15 N hj hz s15 hN2 => ?_) (fun Ds H15 hDs s15 e15 => ?_)
        · obtain ⟨rfl, hj1⟩ := vec_at hz
          have hb := hfb _ (nth_mem (i := ((j : Nat) : Int)) (by omega) (by omega))
          walk_at "go"
          have en : nth (sqOf nd.p L mid) ((j : Nat) : Int) = nth fv (j : Nat) * nth fv (j : Nat) := by
            rw [hsq]
            exact nth_map (f := fun a => a * a) hj1
          rw [← en]
          exact hN2 _ (Same.refl _)
        have hsl2 : (sqOf nd.p L mid).length = wd := by rw [hsq, List.length_map]; exact hfl
        have s1315 := s14.trans s15
        have s315 := s313.trans s1315
        walk_at "go"
        refine w_ix (s315.sq h5) (atI_nat (j := 4) rfl) ?_
        walk_at "go"
        refine ⟨_, _, _, sqOf nd.p L mid, _, rfl, RMat.mono _ _ _ _ s315 m4, ⟨true, Ds, rfl, Sq.lst e15⟩, mat_bd p97 (hM 4 (by omega)).2 hsl2, by rw [(hM 4 (by omega)).1]; omega, by omega, hp0, fun Dm H16 hDm s16 e16 => ?_⟩
        have hnx : nextOf nd.p L (prsAt rows i) x = vplus nd.p mid (vtimes nd.p (mt L 4) (sqOf nd.p L mid)) := by
          unfold nextOf
          rw [hmd]
        have hmol : (vtimes nd.p (mt L 4) (sqOf nd.p L mid)).length = wd := by rw [vtimes_len]; exact (hM 4 (by omega)).1
        generalize hmo : vtimes nd.p (mt L 4) (sqOf nd.p L mid) = more at hnx hmol e16
        have s1316 := s1315.trans s16
        have hxj16 := s1316 _ _ hxj
        walk_at "go"
        refine c_intsR (by omega) (by omega) (nextOf nd.p L (prsAt rows i) x) (by rw [hnx, vplus_len (by omega)]; omega) (fun _ => rfl) (fun i2 H17 N hi2 s17 hN2 => ?_) (fun ax2 H17 hax2 s17 e17 => ?_)
        · walk_at "go"
          have en : nth (nextOf nd.p L (prsAt rows i) x) ((i2 : Nat) : Int) = (nth mid (i2 : Nat) + nth more (i2 : Nat)) % nd.p := by
            rw [hnx]
            unfold vplus
            rw [nth_zip (by omega) (by omega)]
          rw [← en]
          exact hN2 _ (Same.refl _)
        have s1217 := (s13.trans s1316).trans s17
        have f17 := f12.mono RPr.mono s1217
        have f16 := f12.mono RPr.mono (s13.trans s1316)
        obtain ⟨fys, fe, _, _⟩ := f16.at_
        have nax2 : ax2 ≠ D := (ne_of_none fe hax2).symm
        obtain ⟨fys2, fe2, _, _⟩ := f17.at_
        obtain ⟨ys', e', hl', fp⟩ := f17.push (RPr.tup _ _ _ _ (NTup.lst fe2) (RPr.mono _ _ _ _ (s12.trans s1217) hpair))
        walk_at "go"
        refine w_append e' (line_of (by rw [hl', st1]; have := ok.l3; omega)) ?_
        walk_at "go"
        have h1 : (rowSt nd rows (startX nd rows l) (i + 1)).2 = nextOf nd.p L (prsAt rows i) x := by
          show nextOf nd.p (nd.lay.getD i []) (prsAt rows i) (rowSt nd rows (startX nd rows l) i).2 = _
          rw [eL, ex]
        have h2 : (rowSt nd rows (startX nd rows l) (i + 1)).1 = (rowSt nd rows (startX nd rows l) i).1 ++ [pairOf nd.p L x] := by
          show (rowSt nd rows (startX nd rows l) i).1 ++ [pairOf nd.p (nd.lay.getD i []) (rowSt nd rows (startX nd rows l) i).2] = _
          rw [eL, ex]
        refine ⟨ax2, _, _, _, _, _, _, _, _, rfl, nax2, ?_, ?_⟩
        · rw [h1, upd_ne nax2]
          exact e17
        · rw [h2]
          exact fp
    · rintro σ H' ⟨ax, y6, y7, y8, y9, y10, y11, y12, y13, rfl, nax, hxv, f⟩
      rw [show ((lvs.length : Nat) : Int).toNat = nd.lay.length by omega] at hxv f
      obtain ⟨st1, st2, st3, st4⟩ := rowSt_ok ok hro hx0 nd.lay.length (Nat.le_refl _)
      have s3 := s1.trans f.same
      obtain ⟨a4, ys4, e4', hS4, hl4, hr4⟩ := f.seq RPr.mono (K := K)
      cases e4'
      have e3 : (lastSt nd rows l).2 = (rowSt nd rows (startX nd rows l) nd.lay.length).2 := rfl
      rw [← e3] at hxv st3
      walk_at "go"
      refine w_tupL hS4 fun t1 ht1 => ?_
      have s4 : Same H' (upd H' t1 (.tup ys4)) := Same.new ht1
      have r1 : RSeq false K (RPr K) (upd H' t1 (.tup ys4)) (.ref t1) (rowSt nd rows (startX nd rows l) nd.lay.length).1 := ⟨t1, ys4, rfl, Sq.tup upd_same, hl4, fun i y d h1 h2 => RPr.mono _ _ _ _ s4 (hr4 i y d h1 h2)⟩
      generalize upd H' t1 (.tup ys4) = H4 at s4 r1 ⊢
      have s04 := s3.trans s4
      have hx4 := s4 _ _ hxv
      walk_at "go"
      refine w_ix (s04.sq hN1) (atI_nat (j := 4) rfl) ?_
      walk_at "go"
      refine c_ints ovs (s04.sq hO1) (rowD nd rows l).2 (by show (nd.out.map _).length = _; rw [List.length_map, hOl]) (line_of (by have := ok.o12; omega)) (fun _ => rfl) (fun j y H5 N hj hy s5 hN2 => ?_) (fun D5 H5 hD5 s5 e5 => ?_)
      · have hd : nd.out[j]? = some (nd.out[j]'(by omega)) := List.getElem?_eq_getElem (by omega)
        have ho := ok.out _ (List.mem_of_getElem? hd)
        walk_at "go"
        refine ⟨_, _, _, (lastSt nd rows l).2, _, rfl, ⟨false, RVec.mono _ _ _ _ (s04.trans s5) (hOr j y _ hy hd)⟩, ⟨true, ax, rfl, Sq.lst (s5 _ _ hx4)⟩, by rw [ho.1, st3], by rw [ho.1]; omega, ho.2.bd ok.p97, hp0, ?_⟩
        walk_at "go"
        have en : nth (rowD nd rows l).2 ((j : Nat) : Int) = dot (nd.out[j]'(by omega)) (lastSt nd rows l).2 % nd.p + 1 := (nth_mapG (f := fun v => 1 + dot v (lastSt nd rows l).2 % nd.p) hd).trans (Int.add_comm ..)
        rw [← en]
        exact hN2 _ (Same.refl _)
      walk_at "go"
      refine w_tupL (Sq.lst e5) fun t2 ht2 => ?_
      walk_at "go"
      have s6 := Same.new (o := .tup ((rowD nd rows l).2.map V.int)) ht2
      refine ⟨(by show 2 ≤ sizeLine; decide), fun t3 ht3 => ?_⟩
      walk_at "go"
      have s7 := Same.new (o := .tup [.ref t1, .ref t2]) ht3
      exact k _ _ ((s04.trans s5).trans (s6.trans s7)) ⟨t3, .ref t1, .ref t2, rfl, Sq.tup upd_same, RSeq.mono RPr.mono _ _ _ _ (s5.trans (s6.trans s7)) r1, ⟨t2, rfl, s7.sq (Sq.tup upd_same)⟩⟩


/-! ### _law_numbers: so many numbers from 0 to 999 -/
def sp_L_numbers (K : PySem.W.Frag) : Sp := fun vs H Q _ => ∃ (c t n : Int), vs = [.int c, .int t, .int n] ∧ 0 ≤ n ∧ n ≤ 1000 ∧
  ∀ (ns : List Int) (p : Addr) (H' : Hp), (ns.length : Int) = n → (∀ x ∈ ns, (0 : Int) ≤ x ∧ x < 1000) → Same H H' → H p = none → H' p = some (.lst (ns.map V.int)) → Q (.ref p) H'
theorem ok_L_numbers (T : Txt K mg) : FnOk P w K mg base CX0 1 T.a_L_numbers T.d_L_numbers ["_law_cell", "_law_at", "_law_many"] (sp_L_numbers K) := by
  refine T.F_L_numbers.ok sc_L_numbers (fun vs H Q E h => ?_) (fun cdv A outer s H vs Q E hr h => ?_)
  · obtain ⟨_, _, _, rfl, _⟩ := h
    rfl
  · obtain ⟨c, t, n, rfl, hn0, hn1, k⟩ := h
    refine ⟨_, (pss_cons (ps_set (i := 3) sc_L_numbers.nd rfl (Or.inl rfl) (pe_cmpR op_ge (pe_callB cr_abs (by rfl) T.z_abs (by decide +kernel) (pa_cons (pe_callTy cr_int1 (by rfl) T.z_int (by decide +kernel) (pa_cons (pv 0) pa_nil)) pa_nil)) (pe_op op_pow pe_int pe_int) (nomark _)))
      (pss_cons (ps_set (i := 4) sc_L_numbers.nd rfl (Or.inl rfl) (pe_op (k_addG (K := K) rfl) (pe_op op_mul pe_int (pe_callB cr_abs (by rfl) T.z_abs (by decide +kernel) (pa_cons (pe_callTy cr_int1 (by rfl) T.z_int (by decide +kernel) (pa_cons (pv 0) pa_nil)) pa_nil))) (pe_callTy cr_int1 (by rfl) T.z_int (by decide +kernel) (pa_cons (pe_cmpR op_lt (pv 0) pe_int (nomark _)) pa_nil))))
      (pss_cons (ps_set (i := 5) sc_L_numbers.nd rfl (Or.inl rfl) (pe_lst pa_nil))
      (pss_cons (ps_for PassesOwn.never rfl (pi_range1 rfl T.z_range (pa_cons (pv 2) pa_nil)) (pg_name (i := 6) sc_L_numbers.nd rfl (Or.inl rfl))
      (pss_one (ps_if (k_tru (K := K) rfl (pv 3) (by intro _; rfl)) (pss_cons (ps_expr (k_bm (K := K) rfl PySem.F.plainAttrs_list PySem.F.slot_list_append PySem.F.type_list_append mt_append (pv 5) (pa_cons (pe_op op_mod (pe_callTy cr_int1 (by rfl) T.z_int (by decide +kernel) (pa_cons (pv 4) pa_nil)) pe_int) pa_nil)))
      (pss_one (ps_set (i := 4) sc_L_numbers.nd rfl (Or.inl rfl) (pe_op op_fdiv (pv 4) pe_int)))) (pss_cons (ps_set (i := 7) sc_L_numbers.nd rfl (Or.inl rfl) (pe_op op_mod (pe_callTy cr_int1 (by rfl) T.z_int (by decide +kernel) (pa_cons (pe_op (k_addG (K := K) rfl) (pe_op (k_addG (K := K) rfl) (pe_op (k_addG (K := K) rfl) (pe_op op_mul (pv 4) pe_int) (pe_op op_mul (pv 1) pe_int)) (pe_op op_mul (pv 6) pe_int)) pe_int) pa_nil)) pe_int))
      (pss_cons (ps_set (i := 7) sc_L_numbers.nd rfl (Or.inl rfl) (pe_op op_mod (pe_callTy cr_int1 (by rfl) T.z_int (by decide +kernel) (pa_cons (pe_op (k_addG (K := K) rfl) (pe_op (k_addG (K := K) rfl) (pe_op op_mul (pv 7) (pv 7)) (pe_op op_mul (pv 6) pe_int)) pe_int) pa_nil)) pe_int))
      (pss_cons (ps_set (i := 7) sc_L_numbers.nd rfl (Or.inl rfl) (pe_op op_mod (pe_callTy cr_int1 (by rfl) T.z_int (by decide +kernel) (pa_cons (pe_op (k_addG (K := K) rfl) (pe_op (k_addG (K := K) rfl) (pe_op op_mul (pv 7) (pv 7)) (pe_op op_mul (pv 1) pe_int)) pe_int) pa_nil)) pe_int))
      (pss_one (ps_expr (k_bm (K := K) rfl PySem.F.plainAttrs_list PySem.F.slot_list_append PySem.F.type_list_append mt_append (pv 5) (pa_cons (pe_op op_mod (pe_callTy cr_int1 (by rfl) T.z_int (by decide +kernel) (pa_cons (pe_op op_fdiv (pv 7) pe_int) pa_nil)) pe_int) pa_nil))))))))))
      (pss_one (ps_ret (pv 5))))))), ?_⟩
    refine go_start (σ' := [some (.int c), some (.int t), some (.int n), none, none, none, none, none]) rfl ?_
    try dsimp only [cxOf, Cx.nox, Cx.wish]
    walk_at "go"
    refine ⟨Nat.zero_le _, fun l hl => ?_⟩
    walk_at "go"
    refine l_range (fun i σ H' => ∃ (g : Bool) (r : Int) (ns : List Int) (y6 y7 : Option V), σ = [some (.int c), some (.int t), some (.int n), some (.bl g), some (.int r), some (.ref l), y6, y7] ∧ ns.length = i ∧ (∀ x ∈ ns, (0 : Int) ≤ x ∧ x < 1000) ∧ Same H H' ∧ H' l = some (.lst (ns.map V.int)))
      (by omega) (by omega) ⟨_, _, [], none, none, rfl, rfl, List.forall_mem_nil _, Same.new hl, upd_same⟩ ?_ ?_
    · rintro i σ H' hi ⟨g, r, ns, y6, y7, rfl, hlen, hb, sm, hL⟩
      have hz : (ns.map V.int).length < sizeLine := by
        rw [List.length_map]
        exact small1000 (by omega)
      walk_at "go"
      refine w_iteB (fun hg => ?_) (fun hg => ?_)
      · walk_at "go"
        refine w_append hL hz ?_
        walk_at "go"
        refine ⟨g, _, ns ++ [_], _, _, rfl, by rw [List.length_append, hlen]; rfl, fun x hx => ?_, Same.mut sm hl, by rw [upd_same, List.map_append]; rfl⟩
        rcases List.mem_append.mp hx with h | h
        · exact hb x h
        · rw [List.mem_singleton.mp h]; omega
      · walk_at "go"
        refine w_append hL hz ?_
        walk_at "go"
        refine ⟨g, _, ns ++ [_], _, _, rfl, by rw [List.length_append, hlen]; rfl, fun x hx => ?_, Same.mut sm hl, by rw [upd_same, List.map_append]; rfl⟩
        rcases List.mem_append.mp hx with h | h
        · exact hb x h
        · rw [List.mem_singleton.mp h]; omega
    · rintro σ H' ⟨g, r, ns, y6, y7, rfl, hlen, hb, sm, hL⟩
      walk_at "go"
      exact k ns l H' (by omega) hb sm hl hL

/-! ### _law_same: True of the same data -/
def sp_L_same (K : PySem.W.Frag) (n : Nat) : Sp := fun vs H Q _ => ∃ x y : V, vs = [x, y] ∧ Sm K H n x y ∧ Q (.bl true) H
theorem same_step (T : Txt K mg) {n k : Nat} (G : FnOk P w K mg base CX0 k T.a_L_same T.d_L_same ["_law_actual", "_law_expected"] (fun vs H Q E => ∃ m, n = m + 1 ∧ sp_L_same K m vs H Q E)) :
    FnOk P w K mg base CX0 (k + 1) T.a_L_same T.d_L_same ["_law_actual", "_law_expected"] (sp_L_same K n) := by
  refine T.F_L_same.ok sc_L_same (fun vs H Q E h => ?_) (fun cdv A outer s H vs Q E hr h => ?_)
  · obtain ⟨_, _, rfl, _⟩ := h
    rfl
  · obtain ⟨x, y, rfl, hS, q⟩ := h
    refine ⟨_, (pss_cons (ps_if (pt_cmpR op_isNN (pv 1) pe_non (nomark _)) (pss_one (ps_ret (pe_cmpR op_isNN (pv 0) pe_non (nomark _)))) pss_nil)
      (pss_cons (ps_if (k_tru (K := K) rfl (pe_callB (k_isi (K := K) rfl) (by rfl) T.z_isinstance (by decide +kernel) (pa_cons (pv 1) (pa_cons (pe_bltn (v := .ty "str") (by rfl) T.z_str (by decide +kernel) rfl) pa_nil))) (by intro _; rfl)) (pss_one (ps_ret (pe_and (pe_callB (k_isi (K := K) rfl) (by rfl) T.z_isinstance (by decide +kernel) (pa_cons (pv 0) (pa_cons (pe_bltn (v := .ty "str") (by rfl) T.z_str (by decide +kernel) rfl) pa_nil))) (pe_one (pe_cmpR (k_eqG (K := K) rfl hr.units) (pv 0) (pv 1) (nomark _)))))) pss_nil)
      (pss_cons (ps_if (k_tru (K := K) rfl (pe_callB (k_isi (K := K) rfl) (by rfl) T.z_isinstance (by decide +kernel) (pa_cons (pv 1) (pa_cons (pe_bltn (v := .ty "bool") (by rfl) T.z_bool (by decide +kernel) rfl) pa_nil))) (by intro _; rfl)) (pss_one (ps_ret (pe_and (pe_callB (k_isi (K := K) rfl) (by rfl) T.z_isinstance (by decide +kernel) (pa_cons (pv 0) (pa_cons (pe_bltn (v := .ty "bool") (by rfl) T.z_bool (by decide +kernel) rfl) pa_nil))) (pe_one (pe_cmpR (k_eqG (K := K) rfl hr.units) (pv 0) (pv 1) (nomark _)))))) pss_nil)
      (pss_cons (ps_if (k_tru (K := K) rfl (pe_callB (k_isi (K := K) rfl) (by rfl) T.z_isinstance (by decide +kernel) (pa_cons (pv 1) (pa_cons (pe_bltn (v := .ty "int") (by rfl) T.z_int (by decide +kernel) rfl) pa_nil))) (by intro _; rfl)) (pss_one (ps_ret (pe_and (pe_callB (k_isi (K := K) rfl) (by rfl) T.z_isinstance (by decide +kernel) (pa_cons (pv 0) (pa_cons (pe_bltn (v := .ty "int") (by rfl) T.z_int (by decide +kernel) rfl) pa_nil))) (pe_and (pe_not (pe_callB (k_isi (K := K) rfl) (by rfl) T.z_isinstance (by decide +kernel) (pa_cons (pv 0) (pa_cons (pe_bltn (v := .ty "bool") (by rfl) T.z_bool (by decide +kernel) rfl) pa_nil)))) (pe_one (pe_cmpR (k_eqG (K := K) rfl hr.units) (pv 0) (pv 1) (nomark _))))))) pss_nil)
      (pss_cons (ps_if (PW.pt (pw_or (pt_not (k_tru (K := K) rfl (pe_callB (k_isi (K := K) rfl) (by rfl) T.z_isinstance (by decide +kernel) (pa_cons (pv 0) (pa_cons (pe_bltn (v := .ty "tuple") (by rfl) T.z_tuple (by decide +kernel) rfl) pa_nil))) (by intro _; rfl))) (pw_or1 (pt_cmpR (k_neG (K := K) rfl hr.units) (pe_callB (k_lenS (K := K) rfl) (by rfl) T.z_len (by decide +kernel) (pa_cons (pv 0) pa_nil)) (pe_callB (k_lenS (K := K) rfl) (by rfl) T.z_len (by decide +kernel) (pa_cons (pv 1) pa_nil)) (nomark _))))) (pss_one (ps_ret pe_bl)) pss_nil)
      (pss_cons (ps_for PassesOwn.never rfl (pi_range1 rfl T.z_range (pa_cons (pe_callB (k_lenS (K := K) rfl) (by rfl) T.z_len (by decide +kernel) (pa_cons (pv 1) pa_nil)) pa_nil)) (pg_name (i := 2) sc_L_same.nd rfl (Or.inl rfl))
      (pss_one (ps_if (pt_not (k_tru (K := K) rfl (pe_call G hr (by rfl) T.g_L_same T.F_L_same.kp T.b_L_same .nil pass0 (pa_cons (pe_ix (k_ix (K := K) rfl) (pv 0) (pv 2) (fun _ _ => rfl)) (pa_cons (pe_ix (k_ix (K := K) rfl) (pv 1) (pv 2) (fun _ _ => rfl)) pa_nil))) (by intro _; rfl))) (pss_one (ps_ret pe_bl)) pss_nil)))
      (pss_one (ps_ret pe_bl)))))))), ?_⟩
    refine go_start (σ' := [some x, some y, none]) rfl ?_
    try dsimp only [cxOf, Cx.nox, Cx.wish]
    have hflat : (x = y ∧ (x = .non ∨ (∃ b, x = .bl b) ∨ (∃ i, x = .int i) ∨ ∃ s, x = .str s)) ∨
        ∃ (m : Nat) (a a' : Addr) (k : Bool) (xs ys : List V), n = m + 1 ∧ x = .ref a ∧ y = .ref a' ∧ SqT K H a xs ∧ Sq k K H a' ys ∧ xs.length = ys.length ∧ ys.length ≤ 100000 ∧ ∀ (i : Nat) x' y', xs[i]? = some x' → ys[i]? = some y' → Sm K H m x' y' := by
      cases n with
      | zero => exact .inl hS
      | succ m =>
        rcases hS with h | ⟨a, a', k, xs, ys, h1, h2, h3, h4, h5, hz, h6⟩
        · exact .inl h
        · exact .inr ⟨m, a, a', k, xs, ys, rfl, h1, h2, h3, h4, h5, hz, h6⟩
    rcases hflat with ⟨rfl, rfl | ⟨b, rfl⟩ | ⟨i, rfl⟩ | ⟨z, rfl⟩⟩ | ⟨m, a, a', kd, xs, ys, rfl, rfl, rfl, hx, hy, hl, hz, hxy⟩
    · walk_at "go"
      exact q
    · walk_at "go"
      refine w_isi (tn := "bool") (b := false) (.base (.bl _)) (by decide +kernel) ?_
      walk_at "go"
      refine w_isi (tn := "bool") (b := true) (.base (.bl _)) (by decide +kernel) ?_
      walk_at "go"
      refine w_isi (tn := "bool") (b := true) (.base (.bl _)) (by decide +kernel) ?_
      walk_at "go"
      refine w_eqS rfl ?_
      rw [decide_eq_true rfl]
      exact q
    · walk_at "go"
      refine w_isi (tn := "int") (b := false) (.base (.int _)) (by decide +kernel) ?_
      walk_at "go"
      refine w_isi (tn := "int") (b := false) (.base (.int _)) (by decide +kernel) ?_
      walk_at "go"
      refine w_isi (tn := "int") (b := true) (.base (.int _)) (by decide +kernel) ?_
      walk_at "go"
      refine w_isi (tn := "int") (b := true) (.base (.int _)) (by decide +kernel) ?_
      walk_at "go"
      refine w_isi (tn := "int") (b := false) (.base (.int _)) (by decide +kernel) ?_
      walk_at "go"
      rw [decide_eq_true rfl]
      exact q
    · walk_at "go"
      refine w_isi (tn := "str") (b := true) (.base (.str _)) (by decide +kernel) ?_
      walk_at "go"
      refine w_isi (tn := "str") (b := true) (.base (.str _)) (by decide +kernel) ?_
      walk_at "go"
      refine w_eqS rfl ?_
      rw [decide_eq_true rfl]
      exact q
    · walk_at "go"
      have isi : ∀ {cn : String} {Q' : VK}, kitB (if kd then "list" else "tuple") cn = some false → Q' (.bl false) H → rIsi K [.ref a', .ty cn] H Q' := fun hk q' => by
        cases kd with
        | true => exact w_isi (tyx_lst hy) hk q'
        | false => exact w_isi (tyx_tup hy) hk q'
      refine isi (by cases kd <;> decide +kernel) ?_
      walk_at "go"
      refine isi (by cases kd <;> decide +kernel) ?_
      walk_at "go"
      refine isi (by cases kd <;> decide +kernel) ?_
      walk_at "go"
      refine w_isi (tn := "tuple") (b := true) (tyx_tup hx) (by decide +kernel) ?_
      walk_at "go"
      have hx' : Sq false K H a xs := hx
      walk_at "go"
      refine w_iteN (fun hc => absurd (show ((xs.length : Nat) : Int) = ys.length by rw [hl]) hc) (fun _ => ?_)
      walk_at "go"
      refine l_range (fun i σ H' => ∃ y2, σ = [some (.ref a), some (.ref a'), y2] ∧ H' = H) (by omega) (by omega) ⟨none, rfl, rfl⟩ ?_ ?_
      · rintro i σ H' hi ⟨y2, rfl, rfl⟩
        have hi2 : i < ys.length := by omega
        have ex : xs[i]? = some (xs[i]'(by omega)) := List.getElem?_eq_getElem (by omega)
        have ey : ys[i]? = some (ys[i]'hi2) := List.getElem?_eq_getElem hi2
        walk_at "go"
        refine w_ix hx' (atI_nat ex) ?_
        walk_at "go"
        refine w_ix hy (atI_nat ey) ?_
        walk_at "go"
        refine ⟨m, rfl, _, _, rfl, hxy i _ _ ex ey, ?_⟩
        walk_at "go"
        exact ⟨_, rfl, rfl⟩
      · rintro σ H' ⟨y2, rfl, rfl⟩
        walk_at "go"
        exact q
/-- of data no deeper than n, at a level of its own -/
theorem ok_L_same_at (T : Txt K mg) : ∀ n : Nat, FnOk P w K mg base CX0 (n + 1) T.a_L_same T.d_L_same ["_law_actual", "_law_expected"] (sp_L_same K n)
  | 0 => same_step T (k := 0) ⟨fun vs H Q E h => by obtain ⟨m, e, _⟩ := h; exact absurd e (by omega), fun A outer s H args us vs Q E hr he hb hv h => by obtain ⟨m, e, _⟩ := h; exact absurd e (by omega)⟩
  | n + 1 => same_step T ((ok_L_same_at T n).imp fun vs H Q E h => by
      obtain ⟨m, e, h⟩ := h
      have e2 : m = n := by omega
      subst e2
      exact h)

/-! ### the same rows; nets told; rows of a part -/
theorem pair_sm {K : PySem.W.Frag} {H : Hp} {n : Nat} {x y : V} {p : PairD} (h1 : p.1.length ≤ 1000) (h2 : p.2.length ≤ 1000) (r1 : RPr K H x p) (r2 : RPr K H y p) : Sm K H (n + 2) x y :=
  RPair.sm (fun _ _ a b => RVec.sm (by omega) a b) (fun _ _ a b => RVec.sm (by omega) a b) r1 r2
theorem row_sm {K : PySem.W.Frag} {H : Hp} {nd : NetD} {w : Nat} (ok : NetOk nd w) {x y : V} {r : RowD} (hr : RowOk nd w r) (r1 : RRow K H x r) (r2 : RRow K H y r) : Sm K H 4 x y := by
  obtain ⟨h1, h2, h3⟩ := hr
  have := ok.l3
  have := ok.o12
  have := ok.w4
  exact RPair.sm (fun _ _ a b => RSeq.sm (by omega) (fun _ _ d hd a b => pair_sm (by have := (h2 d hd).1.1; omega) (by have := (h2 d hd).2.1; omega) a b) a b) (fun _ _ a b => RVec.sm (by omega) a b) r1 r2
theorem rows_sm {K : PySem.W.Frag} {H : Hp} {b : Bool} {nd : NetD} {w : Nat} (ok : NetOk nd w) {x y : V} {rows : List RowD} (hz : rows.length ≤ 1000) (hr : ∀ r ∈ rows, RowOk nd w r) (r1 : RSeq false K (RRow K) H x rows) (r2 : RSeq b K (RRow K) H y rows) : Sm K H 5 x y :=
  RSeq.sm (by omega) (fun _ _ d hd a b => row_sm ok (hr d hd) a b) r1 r2
theorem Sm.up {K : PySem.W.Frag} {H : Hp} : ∀ {n : Nat} {x y : V}, Sm K H n x y → Sm K H (n + 1) x y
  | 0, _, _, h => .inl h
  | n + 1, _, _, h => by
    rcases h with h | ⟨a, a', k, xs, ys, h1, h2, h3, h4, h5, hz, h6⟩
    · exact .inl h
    · exact .inr ⟨a, a', k, xs, ys, h1, h2, h3, h4, h5, hz, fun i x' y' e1 e2 => Sm.up (h6 i x' y' e1 e2)⟩
theorem make_same {H : Hp} {x dx : Addr} {o o' : HO} (hx : H x = none) (hdx : H dx = none) : Same H (hide x (upd (upd H dx o) x o')) := fun b u e => by
  rw [hide_upd, hide_ne (ne_of_none e hx), upd_ne (ne_of_none e hdx)]
  exact e
def RTold (K : PySem.W.Frag) (C : Addr) : Rep NetD := fun H v nd => ∃ q, v = .ref q ∧ IsNet K C H q nd .non
theorem RTold.mono {K : PySem.W.Frag} {C : Addr} : RMono (RTold K C) := fun _ _ _ _ s ⟨q, e, h⟩ => ⟨q, e, h.mono s⟩
theorem RTold.lst {K : PySem.W.Frag} {C : Addr} : RLst (RTold K C) := fun H D v nd ys hD ⟨q, e, dx, v1, v2, v3, v4, h0, h1, h2, h3, h4⟩ => by
  have t := NTup.lst hD
  refine ⟨q, e, dx, v1, v2, v3, v4, ?_, RMat.tup _ _ _ _ t h1, RVec.tup _ _ _ _ t h2, RSeq.tup (RSeq.tup RMat.tup) _ _ _ _ t h3, RMat.tup _ _ _ _ t h4⟩
  rw [hide_ne (fun e => by rw [e, hD] at h0; cases h0)]
  exact h0
theorem RLay.x {K : PySem.W.Frag} {H : Hp} {v : V} {L : List (List Mat)} (h : RSeq false K (RSeq false K (RMat K)) H v L) : RLayX K H v L := by
  obtain ⟨a, vs, e, h1, h2, h3⟩ := h
  refine ⟨false, a, vs, e, h1, h2, fun i y x e1 e2 => ?_⟩
  obtain ⟨a', vs', e', h1', h2', h3'⟩ := h3 i y x e1 e2
  exact ⟨false, a', vs', e', h1', h2', fun i y x e1 e2 => (h3' i y x e1 e2).x⟩
/-- the hand-over of a net's data to Net(..) -/
theorem told_of {K : PySem.W.Frag} {C : Addr} {H1 : Hp} {nd : NetD} {w : Nat} (ok : NetOk nd w) (hpr : nd.p ∈ primes) {v1 v2 v3 v4 : V} {x dx : Addr} (hx : H1 x = none) (hdx : H1 dx = none) {Q : VK} {E : XK}
    (r1 : RMat K H1 v1 nd.emb) (r2 : RVec false K H1 v2 nd.sh) (r3 : RSeq false K (RSeq false K (RMat K)) H1 v3 nd.lay) (r4 : RMat K H1 v4 nd.out) (q : ∀ H', Same H1 H' → IsNet K C H' x nd .non → Q .non H') :
    sp_Net___init__ K C [.ref x, .int nd.p, v1, v2, v3, v4, .non] (upd (upd H1 dx (.own x)) x (.ins C dx [])) Q E := by
  have s := make_same (o := .own x) (o' := .ins C dx []) hx hdx
  have := ok.e12
  have := ok.o12
  have := ok.l3
  refine ⟨x, dx, nd, v1, v2, v3, v4, .non, rfl, upd_same, hpr, RMatX.mono _ _ _ _ s r1.x, RVecX.mono _ _ _ _ s ⟨false, r2⟩, RLayX.mono _ _ _ _ s (RLay.x r3), RMatX.mono _ _ _ _ s r4.x, by omega, by omega, by omega, fun L hL => ?_, fun H' s' r => q H' ((s.trans s').trans (hide_same _ _)) r⟩
  obtain ⟨h5, hm⟩ := ok.lay L hL
  have := ok.w4
  exact ⟨by omega, fun M hM => by rw [(hm M hM).1]; omega⟩
theorem natI_toNat {ms : List Int} (h : ∀ x ∈ ms, (0 : Int) ≤ x) : natI (ms.map Int.toNat) = ms := by
  induction ms with
  | nil => rfl
  | cons a r ih =>
    show ((a.toNat : Nat) : Int) :: natI (r.map Int.toNat) = a :: r
    rw [ih fun x hx => h x (List.mem_cons_of_mem _ hx), Int.toNat_of_nonneg (h a (List.mem_cons_self ..))]
theorem rowsD_pre (nd : NetD) : ∀ (ls : List Nat) (acc : List RowD), (rowsD nd ls acc).take acc.length = acc
  | [], acc => List.take_length ..
  | a :: r, acc => by
    have h := congrArg (List.take acc.length) (rowsD_pre nd r (acc ++ [rowD nd acc a]))
    rw [List.take_take, List.length_append, Nat.min_eq_left (by omega), List.take_left' rfl] at h
    exact h
theorem rowsD_takeG (nd : NetD) : ∀ (ls : List Nat) (n : Nat) (acc : List RowD), rowsD nd (ls.take n) acc = (rowsD nd ls acc).take (acc.length + n)
  | ls, 0, acc => by rw [List.take_zero, Nat.add_zero, rowsD_pre]; rfl
  | [], n + 1, acc => by
    show acc = acc.take (acc.length + (n + 1))
    rw [List.take_of_length_le (by omega)]
  | a :: r, n + 1, acc => by
    show rowsD nd (r.take n) (acc ++ [rowD nd acc a]) = (rowsD nd r (acc ++ [rowD nd acc a])).take (acc.length + (n + 1))
    rw [rowsD_takeG nd r n, List.length_append, List.length_singleton, show acc.length + 1 + n = acc.length + (n + 1) by omega]
theorem rowsD_take (nd : NetD) (ls : List Nat) (n : Nat) : rowsD nd (ls.take n) [] = (rowsD nd ls []).take n := by
  rw [rowsD_takeG nd ls n [], List.length_nil, Nat.zero_add]
theorem lastW_at {rows : List RowD} {n : Nat} {r : RowD} (h : rows[n]? = some r) (hl : rows.length = n + 1) : lastW rows = r.2 := by
  unfold lastW
  rw [List.getLastD_eq_getLast?, List.getLast?_eq_getElem?, hl, Nat.add_sub_cancel, h]
  rfl
theorem lastW_take {nd : NetD} {ls : List Nat} {j : Nat} {r : RowD} (h : (rowsD nd ls [])[j]? = some r) : lastW (rowsD nd (ls.take (j + 1)) []) = r.2 := by
  have hj := (List.getElem?_eq_some_iff.mp h).1
  rw [rowsD_take]
  refine lastW_at (n := j) ?_ (by rw [List.length_take]; omega)
  rw [List.getElem?_take, if_pos (by omega)]
  exact h
theorem natI_take (ls : List Nat) (n : Nat) : (natI (ls.take n)).map V.int = ((natI ls).map V.int).take n := by
  unfold natI
  rw [List.map_take, List.map_take]
theorem rowW_in {nd : NetD} {w : Nat} (ok : NetOk nd w) {rows : List RowD} {l : Nat} : ∀ x ∈ (rowD nd rows l).2, 1 ≤ x ∧ x ≤ nd.p := fun x hx => by
  obtain ⟨v, _, e⟩ := List.mem_map.mp hx
  have := ok.p2
  have h1 : 0 ≤ dot v (lastSt nd rows l).2 % nd.p := Int.emod_nonneg _ (by omega)
  have h2 : dot v (lastSt nd rows l).2 % nd.p < nd.p := Int.emod_lt_of_pos _ (by omega)
  subst e
  omega
theorem rowsW_in {nd : NetD} {w : Nat} (ok : NetOk nd w) : ∀ (ls : List Nat) (acc : List RowD), (∀ r ∈ acc, ∀ x ∈ r.2, 1 ≤ x ∧ x ≤ nd.p) → ∀ r ∈ rowsD nd ls acc, ∀ x ∈ r.2, 1 ≤ x ∧ x ≤ nd.p
  | [], acc, h => h
  | a :: r, acc, h => rowsW_in ok r _ fun x hx => by
    rcases List.mem_append.mp hx with h1 | h1
    · exact h x h1
    · rw [List.mem_singleton.mp h1]; exact rowW_in ok
theorem cutV_ints {ns : List Int} {a b : Int} (h0 : 0 ≤ a) (h : a ≤ b) (hb : b ≤ ns.length) : cutV (ns.map V.int) (some a) (some b) = ((ns.drop a.toNat).take (b.toNat - a.toNat)).map V.int := by
  rw [cutV_int h0 h (by rw [List.length_map]; exact hb), List.map_take, List.map_drop]

/-! ### the weights behind letters, in plain lists -/
def wN (nd : NetD) (ls : List Nat) : List Int := lastW (rowsD nd ls [])
theorem wN_ok {nd : NetD} {w : Nat} (ok : NetOk nd w) {ls : List Nat} (h0 : 0 < ls.length) : (wN nd ls).length = nd.out.length ∧ ∀ x ∈ wN nd ls, 1 ≤ x ∧ x ≤ 97 := by
  have e : ls = ls.dropLast ++ [ls.getLast (List.ne_nil_of_length_pos h0)] := (List.dropLast_concat_getLast _).symm
  unfold wN lastW
  rw [e, rowsD_snoc, List.getLastD_concat]
  unfold rowD
  refine ⟨List.length_map .., fun x hx => ?_⟩
  obtain ⟨v, _, rfl⟩ := List.mem_map.mp hx
  have hp := ok.p2
  have hp2 := ok.p97
  have h1 := Int.emod_nonneg (dot v (lastSt nd (rowsD nd ls.dropLast []) (ls.getLast (List.ne_nil_of_length_pos h0))).2) (show nd.p ≠ 0 by omega)
  have h2 := Int.emod_lt_of_pos (dot v (lastSt nd (rowsD nd ls.dropLast []) (ls.getLast (List.ne_nil_of_length_pos h0))).2) (show 0 < nd.p by omega)
  omega
theorem wN_last {nd : NetD} {ls : List Nat} (h0 : 0 < ls.length) : ∃ r, (rowsD nd ls [])[ls.length - 1]? = some r ∧ r.2 = wN nd ls := by
  have hlen : (rowsD nd ls []).length = ls.length := by rw [rowsD_len]; simp only [List.length_nil]; omega
  refine ⟨(rowsD nd ls []).getLastD ([], []), ?_, rfl⟩
  rw [← hlen, ← List.getLast?_eq_getElem?, List.getLastD_eq_getLast?]
  cases e : (rowsD nd ls []).getLast? with
  | none => rw [List.getLast?_eq_none_iff] at e; rw [e] at hlen; simp at hlen; omega
  | some x => rfl
theorem natI_snoc (ls : List Nat) (l : Nat) : (natI ls).map V.int ++ [V.int (l : Nat)] = (natI (ls ++ [l])).map V.int := by
  unfold natI
  rw [List.map_append, List.map_append]
  rfl
theorem natI_catV (a b : List Nat) : (natI a).map V.int ++ (natI b).map V.int = (natI (a ++ b)).map V.int := by
  unfold natI
  rw [List.map_append, List.map_append]
theorem sum_pos : ∀ {ns : List Int}, 0 < ns.length → (∀ x ∈ ns, (1 : Int) ≤ x) → 1 ≤ ns.sum
  | a :: r, _, h => by
    have h1 := h a (List.mem_cons_self ..)
    have h2 := sum_nonneg (ns := r) fun x hx => by have := h x (List.mem_cons_of_mem _ hx); omega
    rw [List.sum_cons]; omega
theorem sum_le : ∀ {ns : List Int}, (∀ x ∈ ns, x ≤ 97) → ns.sum ≤ 97 * ns.length
  | [], _ => by simp
  | a :: r, h => by
    have h1 := h a (List.mem_cons_self ..)
    have h2 := sum_le (ns := r) fun x hx => h x (List.mem_cons_of_mem _ hx)
    rw [List.sum_cons, List.length_cons]; omega
/-- the shares of the letters behind ls -/
def shD (nd : NetD) (ls : List Nat) : List Rat := (wN nd ls).map fun w => Rat.divInt w (wN nd ls).sum
theorem wN_sum {nd : NetD} {w : Nat} (ok : NetOk nd w) (ho : 0 < nd.out.length) {ls : List Nat} (h0 : 0 < ls.length) : 1 ≤ (wN nd ls).sum ∧ (wN nd ls).sum ≤ 1164 := by
  obtain ⟨h1, h2⟩ := wN_ok ok h0
  have h3 := ok.o12
  exact ⟨sum_pos (by omega) fun x hx => (h2 x hx).1, Int.le_trans (sum_le fun x hx => (h2 x hx).2) (by omega)⟩
theorem shD_RB {nd : NetD} {w : Nat} (ok : NetOk nd w) (ho : 0 < nd.out.length) {ls : List Nat} (h0 : 0 < ls.length) : ∀ q ∈ shD nd ls, RB 11 q := fun q hq => by
  obtain ⟨x, hx, rfl⟩ := List.mem_map.mp hq
  obtain ⟨h1, h2⟩ := wN_sum ok ho h0
  have h3 := (wN_ok ok h0).2 x hx
  exact RB.div (by omega) (by show x.natAbs < 2048; omega) (by show (wN nd ls).sum.natAbs < 2048; omega)
theorem shD_len {nd : NetD} {w : Nat} (ok : NetOk nd w) {ls : List Nat} (h0 : 0 < ls.length) : (shD nd ls).length = nd.out.length := by
  unfold shD
  rw [List.length_map]
  exact (wN_ok ok h0).1
/-- the share of a text's first letters -/
def txI (nd : NetD) (pr tx : List Nat) : Nat → Rat
  | 0 => 1
  | i + 1 => txI nd pr tx i * (shD nd (pr ++ tx.take i)).getD (tx.getD i 0) 0
theorem txI_RB {nd : NetD} {w : Nat} (ok : NetOk nd w) (ho : nd.out.length = nd.emb.length) {pr tx : List Nat} (h0 : 0 < pr.length) (hl : ∀ l ∈ tx, l < nd.emb.length) : ∀ i, i ≤ tx.length → RB (11 * i + 1) (txI nd pr tx i)
  | 0, _ => ⟨by show (1 : Rat).num.natAbs < 2; decide, by show (1 : Rat).den < 2; decide⟩
  | i + 1, hi => by
    have h1 := txI_RB ok ho h0 hl i (by omega)
    have hx : tx[i]? = some (tx.getD i 0) := by rw [List.getD_eq_getElem?_getD, List.getElem?_eq_getElem (by omega)]; rfl
    have hlt := hl _ (List.mem_of_getElem? hx)
    have hp : 0 < (pr ++ tx.take i).length := by rw [List.length_append]; omega
    have hs : (shD nd (pr ++ tx.take i)).length = nd.out.length := shD_len ok hp
    have h2 := shD_RB ok (by omega) hp ((shD nd (pr ++ tx.take i)).getD (tx.getD i 0) 0) (by
      rw [List.getD_eq_getElem?_getD, List.getElem?_eq_getElem (by omega)]
      exact List.getElem_mem _)
    exact (h1.mul h2).mono (by omega)
/-- the shares one after the other -/
def sumI (qs : List Rat) : Nat → Rat
  | 0 => 0
  | i + 1 => sumI qs i + qs.getD i 0
theorem take_sum (ns : List Int) : ∀ i, i < ns.length → (ns.take (i + 1)).sum = (ns.take i).sum + nth ns (i : Nat) := fun i hi => by
  have e : ns[i]? = some (nth ns (i : Nat)) := by
    rw [nth_nat, List.getD_eq_getElem?_getD, List.getElem?_eq_getElem hi]
    rfl
  rw [List.take_add_one, e]
  show (ns.take i ++ [nth ns (i : Nat)]).sum = _
  rw [List.sum_append]
  simp
theorem shD_sum {nd : NetD} {ls : List Nat} (hs : (wN nd ls).sum ≠ 0) : ∀ i, i ≤ (wN nd ls).length → sumI (shD nd ls) i = Rat.divInt ((wN nd ls).take i).sum (wN nd ls).sum
  | 0, _ => by
    rw [List.take_zero]
    exact (Rat.zero_divInt _).symm
  | i + 1, hi => by
    have e : (shD nd ls).getD i 0 = Rat.divInt (nth (wN nd ls) (i : Nat)) (wN nd ls).sum := by
      unfold shD
      rw [List.getD_eq_getElem?_getD, List.getElem?_map, nth_nat, List.getD_eq_getElem?_getD, List.getElem?_eq_getElem (show i < (wN nd ls).length by omega)]
      rfl
    show sumI (shD nd ls) i + (shD nd ls).getD i 0 = _
    rw [shD_sum hs i (by omega), e, add_same hs, take_sum _ i (by omega)]
theorem shD_one {nd : NetD} {ls : List Nat} (hs : (wN nd ls).sum ≠ 0) : sumI (shD nd ls) (wN nd ls).length = 1 := by
  rw [shD_sum hs _ (Nat.le_refl _), List.take_length, div_all hs]
theorem sumI_RB {nd : NetD} {w : Nat} (ok : NetOk nd w) (ho : 0 < nd.out.length) {ls : List Nat} (h0 : 0 < ls.length) {i : Nat} (hi : i ≤ (wN nd ls).length) : RB 11 (sumI (shD nd ls) i) := by
  obtain ⟨h1, h2⟩ := wN_sum ok ho h0
  have h3 := (wN_ok ok h0).2
  rw [shD_sum (by omega) i hi]
  have h4 : 0 ≤ ((wN nd ls).take i).sum := sum_nonneg fun x hx => by have := h3 x (List.mem_of_mem_take hx); omega
  have h5 : ((wN nd ls).take i).sum ≤ 97 * ((wN nd ls).take i).length := sum_le fun x hx => (h3 x (List.mem_of_mem_take hx)).2
  rw [List.length_take] at h5
  have h6 := (wN_ok ok h0).1
  have h7 := ok.o12
  exact RB.div (by omega) (by show ((wN nd ls).take i).sum.natAbs < 2048; omega) (by show (wN nd ls).sum.natAbs < 2048; omega)

/-! ### greatest_divisor, Share; _law_common, _law_least, _law_plus, _law_by -/
def qF (q : Rat) : List (Str × V) := [("over", .int q.num), ("under", .int (q.den : Int))]
def RShare (C : Addr) : Rep Rat := fun H v q => ∃ p dx, v = .ref p ∧ H p = some (.ins C dx (qF q))
def RFrac (K : PySem.W.Frag) : Rep Rat := fun H v q => ∃ a, v = .ref a ∧ Sq false K H a [.int q.num, .int (q.den : Int)]
theorem RShare.mono {C : Addr} : RMono (RShare C) := fun _ _ _ _ s ⟨p, dx, e, h⟩ => ⟨p, dx, e, s _ _ h⟩
theorem RShare.lst {C : Addr} : RLst (RShare C) := fun H D v q ys hD ⟨p, dx, e, h⟩ => ⟨p, dx, e, by
  rw [hide_ne (fun e => by rw [e, hD] at h; cases h)]
  exact h⟩
theorem RFrac.mono {K : PySem.W.Frag} : RMono (RFrac K) := fun _ _ _ _ s ⟨a, e, h⟩ => ⟨a, e, s.sq h⟩
theorem RFrac.tup {K : PySem.W.Frag} : RTup (RFrac K) := fun _ _ _ _ hD ⟨a, e, h⟩ => ⟨a, e, sq_hide hD h⟩

def sp_greatest_divisor : Sp := fun vs H Q _ => ∃ a b : Nat, vs = [.int (a : Int), .int (b : Int)] ∧ Q (.int ((Nat.gcd a b : Nat) : Int)) H
theorem ok_greatest_divisor (T : Txt K mg) : FnOk P w K mg base CX0 1 T.a_greatest_divisor T.d_greatest_divisor ["one", "two"] sp_greatest_divisor := by
  refine T.F_greatest_divisor.ok sc_greatest_divisor (fun vs H Q E h => ?_) (fun cdv A outer s H vs Q E hr h => ?_)
  · obtain ⟨_, _, rfl, _⟩ := h
    rfl
  · obtain ⟨a, b, rfl, k⟩ := h
    refine ⟨_, (pss_cons (ps_while PassesOwn.never (pt_cmpR op_gt (pv 1) pe_int (nomark _))
      (pss_one (ps_par (i := 0) (j := 1) rfl sc_greatest_divisor.nd rfl rfl (by decide) rfl rfl (pa_cons (pv 1) (pa_cons (pe_op op_mod (pv 0) (pv 1)) pa_nil)) rfl)))
      (pss_one (ps_ret (pv 0)))), ?_⟩
    refine go_start (σ' := [some (.int (a : Int)), some (.int (b : Int))]) rfl ?_
    try dsimp only [cxOf, Cx.nox, Cx.wish]
    walk_at "go"
    refine w_while (fun m σ H' => ∃ c d : Nat, σ = [some (.int (c : Int)), some (.int (d : Int))] ∧ H' = H ∧ Nat.gcd c d = Nat.gcd a b ∧ m = d) b ⟨a, b, rfl, rfl, rfl, rfl⟩ ?_
    rintro m σ H' ⟨c, d, rfl, rfl, hg, rfl⟩
    walk_at "go"
    refine w_iteD (fun h => ?_) (fun h => ?_)
    · refine w_whN ?_
      walk_at "go"
      refine w_par ?_
      walk_at "go"
      refine w_par2 ?_
      have hd : 0 < m := by omega
      refine ⟨c % m, Nat.mod_lt c hd, m, c % m, ?_, rfl, (gcd_step c m).trans hg, rfl⟩
      rw [Int.natCast_emod]
      rfl
    · walk_at "go"
      have e : m = 0 := by omega
      subst e
      rw [Nat.gcd_zero_right] at hg
      rw [hg]
      exact k

def sp_Share___init__ (C : Addr) : Sp := fun vs H Q _ => ∃ (p dx : Addr) (a b : Int), vs = [.ref p, .int a, .int b] ∧ H p = some (.ins C dx []) ∧ b ≠ 0 ∧ a.natAbs < 2 ^ 4000 ∧ b.natAbs < 2 ^ 4000 ∧
  ∀ H', Same (hide p H) (hide p H') → H' p = some (.ins C dx (qF (Rat.divInt a b))) → Q .non H'
theorem gcd_pos {a b : Int} (hb : b ≠ 0) : (0 : Int) < ((Nat.gcd a.natAbs b.natAbs : Nat) : Int) := by
  have := Nat.gcd_pos_of_pos_right a.natAbs (n := b.natAbs) (by omega)
  omega
theorem abs_eq (i : Int) : (if i < 0 then -i else i) = ((i.natAbs : Nat) : Int) := by
  split <;> omega
theorem ok_Share___init__ (T : Txt K mg) : FnOk P w K mg base CX0 3 T.a_Share___init__ T.d_Share___init__ ["self", "over", "under"] (sp_Share___init__ T.c_Share) := by
  refine T.F_Share___init__.ok sc_Share___init__ (fun vs H Q E h => ?_) (fun cdv A outer s H vs Q E hr h => ?_)
  · obtain ⟨_, _, _, _, rfl, _⟩ := h
    rfl
  · obtain ⟨p, dx, a, b, rfl, h0, hb, ha1, hb1, k⟩ := h
    have cS := T.C_Share
    have n0 := T.n_Share_over
    have n1 := T.n_Share_under
    refine ⟨_, (pss_cons (ps_if (pt_cmpR (k_eqG (K := K) rfl hr.units) (pv 2) pe_int (nomark _)) (pss_one ps_never) pss_nil)
      (pss_cons (ps_set (i := 3) sc_Share___init__.nd rfl (Or.inl rfl) (pe_call (ok_greatest_divisor T) (hr.mono (by decide)) (by rfl) T.g_greatest_divisor T.F_greatest_divisor.kp T.b_greatest_divisor .nil pass0 (pa_cons (pe_callB cr_abs (by rfl) T.z_abs (by decide +kernel) (pa_cons (pv 1) pa_nil)) (pa_cons (pe_callB cr_abs (by rfl) T.z_abs (by decide +kernel) (pa_cons (pv 2) pa_nil)) pa_nil))))
      (pss_cons (ps_if (pt_cmpR op_lt (pv 2) pe_int (nomark _)) (pss_one (ps_set (i := 3) sc_Share___init__.nd rfl (Or.inl rfl) (pe_un un_neg (pv 3)))) pss_nil)
      (pss_cons (k_sfld (K := K) rfl (pv 0) (pe_op op_fdivV (pv 1) (pv 3)) rfl)
      (pss_one (k_sfld (K := K) rfl (pv 0) (pe_op op_fdivV (pv 2) (pv 3)) rfl)))))), ?_⟩
    refine go_start (σ' := [some (.ref p), some (.int a), some (.int b), none]) rfl ?_
    try dsimp only [cxOf, Cx.nox, Cx.wish]
    walk_at "go"
    rw [decide_eq_false hb]
    walk_at "go"
    rw [abs_eq, abs_eq]
    refine ⟨_, _, rfl, ?_⟩
    have hg := gcd_pos (a := a) hb
    generalize hG : ((Nat.gcd a.natAbs b.natAbs : Nat) : Int) = g at hg ⊢
    walk_at "go"
    refine w_iteD (fun h => ?_) (fun h => ?_)
    · walk_at "go"
      refine w_I ⟨by omega, ha1⟩ ?_
      walk_at "go"
      refine w_I ⟨by omega, hb1⟩ ?_
      walk_at "go"
      refine k _ (by rw [hide_upd, hide_upd]; exact Same.refl _) ?_
      rw [upd_same]
      have e : Rat.divInt a b = Rat.divInt (-a) (-b) := (Rat.neg_divInt_neg a b).symm
      have h1 := div_num (a := -a) (b := -b) (by omega)
      have h2 := div_den (a := -a) (b := -b) (by omega)
      rw [Int.natAbs_neg, Int.natAbs_neg, hG, ← fdiv_neg hg] at h1 h2
      unfold qF
      rw [e, h1, h2]
    · walk_at "go"
      refine w_I ⟨by omega, ha1⟩ ?_
      walk_at "go"
      refine w_I ⟨by omega, hb1⟩ ?_
      walk_at "go"
      refine k _ (by rw [hide_upd, hide_upd]; exact Same.refl _) ?_
      rw [upd_same]
      have h1 := div_num (a := a) (b := b) (by omega)
      have h2 := div_den (a := a) (b := b) (by omega)
      rw [hG, ← fdiv_pos hg] at h1 h2
      unfold qF
      rw [h1, h2]
/-- Share(a, b) made -/
theorem share_made {C : Addr} {H : Hp} {x dx : Addr} {a b : Int} (hx : H x = none) (hdx : H dx = none) (hb : b ≠ 0) (ha1 : a.natAbs < 2 ^ 4000) (hb1 : b.natAbs < 2 ^ 4000) {Q : VK} {E : XK} (q : ∀ H', Same H H' → RShare C H' (.ref x) (Rat.divInt a b) → Q .non H') :
    sp_Share___init__ C [.ref x, .int a, .int b] (upd (upd H dx (.own x)) x (.ins C dx [])) Q E :=
  ⟨x, dx, a, b, rfl, upd_same, hb, ha1, hb1, fun H' s h => q H' (((make_same hx hdx).trans s).trans (hide_same _ _)) ⟨x, dx, rfl, h⟩⟩

def sp_Share___mul__ (C : Addr) : Sp := fun vs H Q _ => ∃ (x y : V) (p q : Rat), vs = [x, y] ∧ RShare C H x p ∧ RShare C H y q ∧ RB 1000 p ∧ RB 1000 q ∧ ∀ v' H', Same H H' → RShare C H' v' (p * q) → Q v' H'
theorem RB.big {n : Nat} {p : Rat} (h : RB n p) (hl : n ≤ 1000) : p.num.natAbs < 2 ^ 1000 ∧ (p.den : Int).natAbs < 2 ^ 1000 := ⟨(h.mono hl).1, by rw [Int.natAbs_natCast]; exact (h.mono hl).2⟩
theorem mul_big {i j : Int} {n m : Nat} (h1 : i.natAbs < 2 ^ n) (h2 : j.natAbs < 2 ^ m) : (i * j).natAbs < 2 ^ (n + m) := by
  rw [Int.natAbs_mul, Nat.pow_add]
  exact Nat.mul_lt_mul'' h1 h2
theorem big_up {i : Int} {n m : Nat} (h : i.natAbs < 2 ^ n) (hl : n ≤ m) : i.natAbs < 2 ^ m := Nat.lt_of_lt_of_le h (Nat.pow_le_pow_right (by omega) hl)
theorem ok_Share___mul__ (T : Txt K mg) : FnOk P w K mg base CX0 5 T.a_Share___mul__ T.d_Share___mul__ ["self", "other"] (sp_Share___mul__ T.c_Share) := by
  refine T.F_Share___mul__.ok sc_Share___mul__ (fun vs H Q E h => ?_) (fun cdv A outer s H vs Q E hr h => ?_)
  · obtain ⟨_, _, _, _, rfl, _⟩ := h
    rfl
  · obtain ⟨x, y, p, q, rfl, ⟨ap, dp, rfl, hp⟩, ⟨aq, dq, rfl, hq⟩, bp, bq, k⟩ := h
    have cS := T.C_Share
    have n0 := T.n_Share_over
    have n1 := T.n_Share_under
    refine ⟨_, (pss_one (ps_ret (pe_make T.M_Share (ok_Share___init__ T) (hr.mono (by decide)) rfl T.gc_Share T.b_Share___init__ .nil pass0 (pa_cons (pe_op op_mulX (k_fld (K := K) rfl (pv 0) rfl) (k_fld (K := K) rfl (pv 1) rfl)) (pa_cons (pe_op op_mulX (k_fld (K := K) rfl (pv 0) rfl) (k_fld (K := K) rfl (pv 1) rfl)) pa_nil))))), ?_⟩
    refine go_start (σ' := [some (.ref ap), some (.ref aq)]) rfl ?_
    try dsimp only [cxOf, Cx.nox, Cx.wish]
    unfold qF at hp hq
    obtain ⟨p1, p2⟩ := bp.big (Nat.le_refl _)
    obtain ⟨q1, q2⟩ := bq.big (Nat.le_refl _)
    walk_at "go"
    refine w_I (mulW (big_up p1 (by omega)) (big_up q1 (by omega))) ?_
    walk_at "go"
    refine w_I (mulW (big_up p2 (by omega)) (big_up q2 (by omega))) ?_
    walk_at "go"
    intro x dx hx hdx hne
    refine share_made hx hdx (by have := den_mul p q; omega) (big_up (mul_big p1 q1) (by omega)) (big_up (mul_big p2 q2) (by omega)) fun H' s r => ?_
    rw [← mul_parts] at r
    exact ⟨rfl, k _ _ s r⟩

def sp_L_common : Sp := fun vs H Q _ => ∃ a b : Nat, vs = [.int (a : Int), .int (b : Int)] ∧ b < 2 ^ 1400 ∧ Q (.int ((Nat.gcd a b : Nat) : Int)) H
theorem ok_L_common (T : Txt K mg) : FnOk P w K mg base CX0 1 T.a_L_common T.d_L_common ["_law_one", "_law_other"] sp_L_common := by
  refine T.F_L_common.ok sc_L_common (fun vs H Q E h => ?_) (fun cdv A outer s H vs Q E hr h => ?_)
  · obtain ⟨_, _, rfl, _⟩ := h
    rfl
  · obtain ⟨a, b, rfl, hb, k⟩ := h
    refine ⟨_, (pss_cons (ps_for PassesOwn.never rfl (pi_range1 rfl T.z_range (pa_cons pe_int pa_nil)) (pg_name (i := 2) sc_L_common.nd rfl (Or.inl rfl))
      (pss_cons (ps_if (pt_cmpR (k_eqG (K := K) rfl hr.units) (pv 1) pe_int (nomark _)) (pss_one ps_break) pss_nil)
      (pss_cons (ps_set (i := 3) sc_L_common.nd rfl (Or.inl rfl) (pe_op op_mod (pe_callTy cr_int1 (by rfl) T.z_int (by decide +kernel) (pa_cons (pv 0) pa_nil)) (pv 1)))
      (pss_cons (ps_set (i := 0) sc_L_common.nd rfl (Or.inl rfl) (pv 1))
      (pss_one (ps_set (i := 1) sc_L_common.nd rfl (Or.inl rfl) (pv 3)))))))
      (pss_one (ps_ret (pv 0)))), ?_⟩
    refine go_start (σ' := [some (.int (a : Int)), some (.int (b : Int)), none, none]) rfl ?_
    try dsimp only [cxOf, Cx.nox, Cx.wish]
    walk_at "go"
    refine l_range (fun i σ H' => ∃ (c d : Nat) (y2 y3 : Option V), σ = [some (.int (c : Int)), some (.int (d : Int)), y2, y3] ∧ H' = H ∧ Nat.gcd c d = Nat.gcd a b ∧ (i = 0 ∧ c = a ∧ d = b ∨ ∃ j, i = j + 1 ∧ d ≤ c ∧ c * d * 2 ^ j ≤ b * b))
      (by omega) (by omega) ⟨a, b, none, none, rfl, rfl, rfl, .inl ⟨rfl, rfl, rfl⟩⟩ ?_ ?_
    · rintro i σ H' hi ⟨c, d, y2, y3, rfl, rfl, hg, hs⟩
      walk_at "go"
      refine w_iteD (fun h => ?_) (fun h => ?_)
      · walk_at "go"
        have e : d = 0 := by omega
        subst e
        rw [Nat.gcd_zero_right] at hg
        rw [hg]
        exact k
      · have hd : 0 < d := by omega
        walk_at "go"
        refine ⟨d, c % d, some (.int (i : Int)), some (.int ((c : Int) % (d : Int))), ?_, rfl, (gcd_step c d).trans hg, .inr ⟨i, rfl, Nat.le_of_lt (Nat.mod_lt c hd), ?_⟩⟩
        · rw [Int.natCast_emod]
          rfl
        · rcases hs with ⟨rfl, rfl, rfl⟩ | ⟨j, rfl, hdc, hm⟩
          · rw [Nat.pow_zero, Nat.mul_one]
            exact Nat.mul_le_mul_left _ (Nat.le_of_lt (Nat.mod_lt c hd))
          · have h2 := euc_half hd hdc
            calc d * (c % d) * 2 ^ (j + 1) = (2 * (c % d)) * d * 2 ^ j := by rw [Nat.pow_succ]; ac_rfl
              _ ≤ c * d * 2 ^ j := Nat.mul_le_mul_right _ (Nat.mul_le_mul_right _ h2)
              _ ≤ b * b := hm
    · rintro σ H' ⟨c, d, y2, y3, rfl, rfl, hg, hs⟩
      walk_at "go"
      have e : d = 0 := by
        rcases hs with ⟨h, _⟩ | ⟨j, hj, hdc, hm⟩
        · exact absurd h (by decide)
        · refine Nat.eq_zero_of_not_pos fun hd => ?_
          have ej : j = 2999 := by
            have : ((3000 : Int).toNat) = j + 1 := hj
            have : (3000 : Nat) = j + 1 := this
            omega
          subst ej
          have h1 : 1 ≤ c * d := Nat.mul_pos (by omega) hd
          have h2 : 2 ^ 2999 ≤ b * b := Nat.le_trans (Nat.le_trans (by rw [Nat.one_mul]; exact Nat.le_refl _) (Nat.mul_le_mul_right (2 ^ 2999) h1)) hm
          have h3 : b * b < 2 ^ 1400 * 2 ^ 1400 := Nat.mul_lt_mul'' hb hb
          rw [← Nat.pow_add] at h3
          have h4 : 2 ^ (1400 + 1400) ≤ 2 ^ 2999 := Nat.pow_le_pow_right (by omega) (by omega)
          omega
      subst e
      rw [Nat.gcd_zero_right] at hg
      rw [hg]
      exact k
def sp_L_least (K : PySem.W.Frag) : Sp := fun vs H Q _ => ∃ a b : Int, vs = [.int a, .int b] ∧ b ≠ 0 ∧ a.natAbs < 2 ^ 4000 ∧ b.natAbs < 2 ^ 1400 ∧ ∀ v' H', Same H H' → RFrac K H' v' (Rat.divInt a b) → Q v' H'
theorem ok_L_least (T : Txt K mg) : FnOk P w K mg base CX0 2 T.a_L_least T.d_L_least ["_law_over", "_law_under"] (sp_L_least K) := by
  refine T.F_L_least.ok sc_L_least (fun vs H Q E h => ?_) (fun cdv A outer s H vs Q E hr h => ?_)
  · obtain ⟨_, _, rfl, _⟩ := h
    rfl
  · obtain ⟨a, b, rfl, hb, ha1, hb1, k⟩ := h
    refine ⟨_, (Evl.pss_cut (ps_if (pt_cmpR op_lt (pv 1) pe_int (nomark _)) (pss_cons (ps_set (i := 0) sc_L_least.nd rfl (Or.inl rfl) (pe_un un_neg (pv 0)))
      (pss_one (ps_set (i := 1) sc_L_least.nd rfl (Or.inl rfl) (pe_un un_neg (pv 1))))) pss_nil)
      (pss_cons (ps_set (i := 2) sc_L_least.nd rfl (Or.inl rfl) (pe_call (ok_L_common T) (hr.mono (by decide)) (by rfl) T.g_L_common T.F_L_common.kp T.b_L_common .nil pass0 (pa_cons (pe_callB cr_abs (by rfl) T.z_abs (by decide +kernel) (pa_cons (pv 0) pa_nil)) (pa_cons (pv 1) pa_nil))))
      (pss_one (ps_ret (pe_tup (pa_cons (pe_op op_fdivV (pv 0) (pv 2)) (pa_cons (pe_op op_fdivV (pv 1) (pv 2)) pa_nil))))))), ?_⟩
    refine go_start (σ' := [some (.int a), some (.int b), none]) rfl ?_
    try dsimp only [cxOf, Cx.nox, Cx.wish]
    walk_at "go"
    refine w_cut (fun σ H' => ∃ c d : Int, σ = [some (.int c), some (.int d), none] ∧ H' = H ∧ 0 < d ∧ c.natAbs < 2 ^ 4000 ∧ d.natAbs < 2 ^ 1400 ∧ Rat.divInt c d = Rat.divInt a b) ?_ ?_
    · walk_at "go"
      refine w_iteD (fun h => ?_) (fun h => ?_)
      · walk_at "go"
        exact ⟨-a, -b, rfl, rfl, by omega, by rw [Int.natAbs_neg]; exact ha1, by rw [Int.natAbs_neg]; exact hb1, Rat.neg_divInt_neg a b⟩
      · walk_at "go"
        exact ⟨a, b, rfl, rfl, by omega, ha1, hb1, rfl⟩
    · rintro σ H' ⟨c, d, rfl, rfl, hd, hc1, hd1, e⟩
      walk_at "go"
      rw [abs_eq]
      have ed : (d : Int) = ((d.natAbs : Nat) : Int) := by omega
      refine ⟨c.natAbs, d.natAbs, by rw [← ed]; rfl, hd1, ?_⟩
      have hg := gcd_pos (a := c) (b := d) (by omega)
      have h1 := div_num (a := c) (b := d) hd
      have h2 := div_den (a := c) (b := d) hd
      generalize hG : ((Nat.gcd c.natAbs d.natAbs : Nat) : Int) = g at hg h1 h2 ⊢
      walk_at "go"
      refine w_I ⟨by omega, hc1⟩ ?_
      walk_at "go"
      refine w_I ⟨by omega, big_up hd1 (by omega)⟩ ?_
      walk_at "go"
      refine ⟨by show 2 ≤ sizeLine; decide, fun p hp => ?_⟩
      walk_at "go"
      refine k _ _ (Same.new hp) ⟨p, rfl, Sq.tup ?_⟩
      rw [upd_same, ← e, h1, h2, fdiv_pos hg, fdiv_pos hg]
def sp_L_by (K : PySem.W.Frag) : Sp := fun vs H Q _ => ∃ (x y : V) (p q : Rat), vs = [x, y] ∧ RFrac K H x p ∧ RFrac K H y q ∧ RB 600 p ∧ RB 600 q ∧ ∀ v' H', Same H H' → RFrac K H' v' (p * q) → Q v' H'
theorem ok_L_by (T : Txt K mg) : FnOk P w K mg base CX0 3 T.a_L_by T.d_L_by ["_law_one", "_law_other"] (sp_L_by K) := by
  refine T.F_L_by.ok sc_L_by (fun vs H Q E h => ?_) (fun cdv A outer s H vs Q E hr h => ?_)
  · obtain ⟨_, _, _, _, rfl, _⟩ := h
    rfl
  · obtain ⟨x, y, p, q, rfl, ⟨ap, rfl, hp⟩, ⟨aq, rfl, hq⟩, bp, bq, k⟩ := h
    refine ⟨_, (pss_one (ps_ret (pe_call (ok_L_least T) (hr.mono (by decide)) (by rfl) T.g_L_least T.F_L_least.kp T.b_L_least .nil pass0 (pa_cons (pe_op op_mulX (pe_ix (k_ix (K := K) rfl) (pv 0) pe_int (fun _ _ => rfl)) (pe_ix (k_ix (K := K) rfl) (pv 1) pe_int (fun _ _ => rfl))) (pa_cons (pe_op op_mulX (pe_ix (k_ix (K := K) rfl) (pv 0) pe_int (fun _ _ => rfl)) (pe_ix (k_ix (K := K) rfl) (pv 1) pe_int (fun _ _ => rfl))) pa_nil))))), ?_⟩
    refine go_start (σ' := [some (.ref ap), some (.ref aq)]) rfl ?_
    try dsimp only [cxOf, Cx.nox, Cx.wish]
    have p1 := bp.1
    have q1 := bq.1
    have p2 : (p.den : Int).natAbs < 2 ^ 600 := by rw [Int.natAbs_natCast]; exact bp.2
    have q2 : (q.den : Int).natAbs < 2 ^ 600 := by rw [Int.natAbs_natCast]; exact bq.2
    walk_at "go"
    refine w_ix hp (atI_nat (j := 0) rfl) ?_
    walk_at "go"
    refine w_ix hq (atI_nat (j := 0) rfl) ?_
    walk_at "go"
    refine w_I (mulW (big_up p1 (by omega)) (big_up q1 (by omega))) ?_
    walk_at "go"
    refine w_ix hp (atI_nat (j := 1) rfl) ?_
    walk_at "go"
    refine w_ix hq (atI_nat (j := 1) rfl) ?_
    walk_at "go"
    refine w_I (mulW (big_up p2 (by omega)) (big_up q2 (by omega))) ?_
    walk_at "go"
    refine ⟨_, _, rfl, by have := den_mul p q; omega, big_up (mul_big p1 q1) (by omega), big_up (mul_big p2 q2) (by omega), fun v' H' s r => ?_⟩
    rw [← mul_parts] at r
    exact k _ _ s r
def sp_L_plus (K : PySem.W.Frag) : Sp := fun vs H Q _ => ∃ (x y : V) (p q : Rat), vs = [x, y] ∧ RFrac K H x p ∧ RFrac K H y q ∧ RB 600 p ∧ RB 600 q ∧ ∀ v' H', Same H H' → RFrac K H' v' (p + q) → Q v' H'
theorem add_big {i j : Int} {n : Nat} (h1 : i.natAbs < 2 ^ n) (h2 : j.natAbs < 2 ^ n) : (i + j).natAbs < 2 ^ (n + 1) := by
  rw [Nat.pow_succ]
  have := Int.natAbs_add_le i j
  omega
theorem ok_L_plus (T : Txt K mg) : FnOk P w K mg base CX0 3 T.a_L_plus T.d_L_plus ["_law_one", "_law_other"] (sp_L_plus K) := by
  refine T.F_L_plus.ok sc_L_plus (fun vs H Q E h => ?_) (fun cdv A outer s H vs Q E hr h => ?_)
  · obtain ⟨_, _, _, _, rfl, _⟩ := h
    rfl
  · obtain ⟨x, y, p, q, rfl, ⟨ap, rfl, hp⟩, ⟨aq, rfl, hq⟩, bp, bq, k⟩ := h
    refine ⟨_, (pss_one (ps_ret (pe_call (ok_L_least T) (hr.mono (by decide)) (by rfl) T.g_L_least T.F_L_least.kp T.b_L_least .nil pass0 (pa_cons (pe_op (k_addG (K := K) rfl) (pe_op op_mulX (pe_ix (k_ix (K := K) rfl) (pv 0) pe_int (fun _ _ => rfl)) (pe_ix (k_ix (K := K) rfl) (pv 1) pe_int (fun _ _ => rfl))) (pe_op op_mulX (pe_ix (k_ix (K := K) rfl) (pv 1) pe_int (fun _ _ => rfl)) (pe_ix (k_ix (K := K) rfl) (pv 0) pe_int (fun _ _ => rfl)))) (pa_cons (pe_op op_mulX (pe_ix (k_ix (K := K) rfl) (pv 0) pe_int (fun _ _ => rfl)) (pe_ix (k_ix (K := K) rfl) (pv 1) pe_int (fun _ _ => rfl))) pa_nil))))), ?_⟩
    refine go_start (σ' := [some (.ref ap), some (.ref aq)]) rfl ?_
    try dsimp only [cxOf, Cx.nox, Cx.wish]
    have p1 := bp.1
    have q1 := bq.1
    have p2 : (p.den : Int).natAbs < 2 ^ 600 := by rw [Int.natAbs_natCast]; exact bp.2
    have q2 : (q.den : Int).natAbs < 2 ^ 600 := by rw [Int.natAbs_natCast]; exact bq.2
    walk_at "go"
    refine w_ix hp (atI_nat (j := 0) rfl) ?_
    walk_at "go"
    refine w_ix hq (atI_nat (j := 1) rfl) ?_
    walk_at "go"
    refine w_I (mulW (big_up p1 (by omega)) (big_up q2 (by omega))) ?_
    walk_at "go"
    refine w_ix hq (atI_nat (j := 0) rfl) ?_
    walk_at "go"
    refine w_ix hp (atI_nat (j := 1) rfl) ?_
    walk_at "go"
    refine w_I (mulW (big_up q1 (by omega)) (big_up p2 (by omega))) ?_
    walk_at "go"
    refine w_ix hp (atI_nat (j := 1) rfl) ?_
    walk_at "go"
    refine w_ix hq (atI_nat (j := 1) rfl) ?_
    walk_at "go"
    refine w_I (mulW (big_up p2 (by omega)) (big_up q2 (by omega))) ?_
    walk_at "go"
    refine ⟨_, _, rfl, by have := den_mul p q; omega, big_up (add_big (mul_big p1 q2) (mul_big q1 p2)) (by omega), big_up (mul_big p2 q2) (by omega), fun v' H' s r => ?_⟩
    rw [← add_parts] at r
    exact k _ _ s r
/-- _law_is_share of the same -/
def sp_L_is_share (K : PySem.W.Frag) (C : Addr) : Sp := fun vs H Q _ => ∃ (x y : V) (q : Rat), vs = [x, y] ∧ RShare C H x q ∧ RFrac K H y q ∧ ∀ H', Same H H' → Q (.bl true) H'
theorem ok_L_is_share (T : Txt K mg) : FnOk P w K mg base CX0 5 T.a_L_is_share T.d_L_is_share ["_law_told", "_law_due"] (sp_L_is_share K T.c_Share) := by
  refine T.F_L_is_share.ok sc_L_is_share (fun vs H Q E h => ?_) (fun cdv A outer s H vs Q E hr h => ?_)
  · obtain ⟨_, _, _, rfl, _⟩ := h
    rfl
  · obtain ⟨x, y, q, rfl, ⟨ap, dp, rfl, hp⟩, ⟨aq, rfl, hq⟩, k⟩ := h
    have cS := T.C_Share
    have n0 := T.n_Share_over
    have n1 := T.n_Share_under
    unfold qF at hp
    refine ⟨_, (pss_one (ps_ret (pe_call (ok_L_same_at T 3) (hr.mono (by decide)) (by rfl) T.g_L_same T.F_L_same.kp T.b_L_same .nil pass0 (pa_cons (pe_tup (pa_cons (k_fld (K := K) rfl (pv 0) rfl) (pa_cons (k_fld (K := K) rfl (pv 0) rfl) pa_nil))) (pa_cons (pv 1) pa_nil))))), ?_⟩
    refine go_start (σ' := [some (.ref ap), some (.ref aq)]) rfl ?_
    try dsimp only [cxOf, Cx.nox, Cx.wish]
    walk_at "go"
    refine ⟨by show 2 ≤ sizeLine; decide, fun p hpn => ?_⟩
    have s1 := Same.new (o := .tup [.int q.num, .int (q.den : Int)]) hpn
    walk_at "go"
    refine ⟨_, _, rfl, .inr ⟨p, aq, false, _, _, rfl, rfl, Sq.tup upd_same, s1.sq hq, rfl, by show 2 ≤ _; omega, fun i x' y' h1 h2 => ?_⟩, k _ s1⟩
    rw [h1] at h2
    cases h2
    match i, h1 with
    | 0, h1 => cases h1; exact Sm.int
    | 1, h1 => cases h1; exact Sm.int
    | i + 2, h1 => cases h1

/-! ### next_shares, text_share -/
def sp_next_shares (K : PySem.W.Frag) (C CS : Addr) : Sp := fun vs H Q _ => ∃ (p : Addr) (nd : NetD) (e v : V) (w : Nat) (ls : List Nat), vs = [.ref p, v] ∧ IsNet K C H p nd e ∧ NetOk nd w ∧ 0 < nd.out.length ∧ RVecX K H v (natI ls) ∧ (∀ l ∈ ls, l < nd.emb.length) ∧ ls.length ≤ 1000 ∧ 0 < ls.length ∧
  ∀ v' H', Same H H' → RSeq false K (RShare CS) H' v' (shD nd ls) → Q v' H'
theorem ok_next_shares (T : Txt K mg) : FnOk P w K mg base CX0 7 T.a_next_shares T.d_next_shares ["net", "letters"] (sp_next_shares K T.c_Net T.c_Share) := by
  refine T.F_next_shares.ok sc_next_shares (fun vs H Q E h => ?_) (fun cdv A outer s H vs Q E hr h => ?_)
  · obtain ⟨_, _, _, _, _, _, rfl, _⟩ := h
    rfl
  · obtain ⟨p, nd, e, v, wd, ls, rfl, hN, ok, ho, hv, hls, hz, h0, k⟩ := h
    refine ⟨_, (pss_cons (ps_set (i := 2) sc_next_shares.nd rfl (Or.inl rfl) (pe_call (ok_weights_behind T) (hr.mono (by decide)) (by rfl) T.g_weights_behind T.F_weights_behind.kp T.b_weights_behind .nil pass0 (pa_cons (pv 0) (pa_cons (pv 1) pa_nil))))
      (pss_cons (ps_set (i := 3) sc_next_shares.nd rfl (Or.inr rfl) (pe_callB (k_sumS (K := K) rfl rfl) (by rfl) T.z_sum (by decide +kernel) (pa_cons (pv 2) pa_nil)))
      (pss_one (ps_ret (pe_callTy (k_tupS (K := K) rfl) (by rfl) T.z_tuple (by decide +kernel) (pa_cons (pe_lc (own := [("weight", 4)]) (g := gName 4) (tt := tYes) rfl sc_next_shares.nd (k_seqS (K := K) rfl (pv 2)) (blkOk_by (own := [("weight", 4)]) (by kernel_rfl)) (fun _ _ _ _ _ => (pg_name (i := 4) sc_next_shares.nd rfl (by first | exact Or.inl rfl | exact Or.inr rfl))) (fun _ _ _ _ _ => pts_nil) (fun _ _ _ _ _ => (pe_make T.M_Share (ok_Share___init__ T) (hr.mono (by decide)) rfl T.gc_Share T.b_Share___init__ .nil pass0 (pa_cons (pv 4) (pa_cons (pv 3) pa_nil))))) pa_nil)))))), ?_⟩
    refine go_start (σ' := [some (.ref p), some v, none, none, none]) rfl ?_
    try dsimp only [cxOf, Cx.nox, Cx.wish]
    obtain ⟨hw1, hw2⟩ := wN_ok ok h0
    obtain ⟨hs1, hs2⟩ := wN_sum ok ho h0
    have ho12 := ok.o12
    walk_at "go"
    refine ⟨p, nd, e, v, wd, ls, rfl, hN, ok, hv, hls, hz, h0, fun v' H2 s2 ⟨a2, e2, hS2⟩ => ?_⟩
    subst e2
    have hS2 : Sq false K H2 a2 ((wN nd ls).map V.int) := hS2
    walk_at "go"
    refine c_repL (R := RShare T.c_Share) RShare.mono RShare.lst ((wN nd ls).map V.int) hS2 (shD nd ls) (by unfold shD; rw [List.length_map, List.length_map]) (line_of (by rw [List.length_map]; omega)) (fun _ => rfl) (fun i x d H3 N hi hx hd s3 hN3 => ?_) (fun D H3 ys hD s3 e3 hly hry => ?_)
    · obtain ⟨rfl, hi1⟩ := vec_at hx
      have hm := hw2 _ (nth_mem (ns := wN nd ls) (i := ((i : Nat) : Int)) (by omega) (by omega))
      have ed : d = Rat.divInt (nth (wN nd ls) (i : Nat)) (wN nd ls).sum := by
        unfold shD at hd
        rw [List.getElem?_map, List.getElem?_eq_getElem hi1] at hd
        rw [nth_nat, List.getD_eq_getElem?_getD, List.getElem?_eq_getElem hi1]
        exact (Option.some.inj hd).symm
      subst ed
      walk_at "go"
      intro x dx hx' hdx hne
      refine share_made hx' hdx (by omega) (big_up (n := 11) (by show (nth (wN nd ls) (i : Nat)).natAbs < 2048; omega) (by omega)) (big_up (n := 11) (by show (wN nd ls).sum.natAbs < 2048; omega) (by omega)) fun H4 s4 r => ?_
      exact ⟨rfl, hN3 _ _ s4 r⟩
    · walk_at "go"
      refine w_tupL (Sq.lst e3) fun l hl => ?_
      walk_at "go"
      exact k _ _ ((s2.trans s3).trans (Same.new hl)) ⟨l, ys, rfl, Sq.tup upd_same, hly, fun i y x h1 h2 => RShare.mono _ _ _ _ (Same.new hl) (hry i y x h1 h2)⟩
def sp_text_share (K : PySem.W.Frag) (C CS : Addr) : Sp := fun vs H Q _ => ∃ (p : Addr) (nd : NetD) (e v1 v2 : V) (w : Nat) (pr tx : List Nat), vs = [.ref p, v1, v2] ∧ IsNet K C H p nd e ∧ NetOk nd w ∧ nd.out.length = nd.emb.length ∧ 0 < nd.emb.length ∧ RVecX K H v1 (natI pr) ∧ RVecX K H v2 (natI tx) ∧ (∀ l ∈ pr, l < nd.emb.length) ∧ (∀ l ∈ tx, l < nd.emb.length) ∧
  0 < pr.length ∧ pr.length ≤ 12 ∧ tx.length ≤ 12 ∧ ∀ v' H', Same H H' → RShare CS H' v' (txI nd pr tx tx.length) → Q v' H'
theorem ok_text_share (T : Txt K mg) : FnOk P w K mg base CX0 8 T.a_text_share T.d_text_share ["net", "prompt", "text"] (sp_text_share K T.c_Net T.c_Share) := by
  refine T.F_text_share.ok sc_text_share (fun vs H Q E h => ?_) (fun cdv A outer s H vs Q E hr h => ?_)
  · obtain ⟨_, _, _, _, _, _, _, _, rfl, _⟩ := h
    rfl
  · obtain ⟨p, nd, e, v1, v2, wd, pr, tx, rfl, hN, ok, ho, hL0, ⟨b1, a1, rfl, hS1⟩, ⟨b2, a2, rfl, hS2⟩, hpr, htx, h0, h12, ht12, k⟩ := h
    refine ⟨_, (pss_cons (ps_set (i := 3) sc_text_share.nd rfl (Or.inl rfl) (pe_make T.M_Share (ok_Share___init__ T) (hr.mono (by decide)) rfl T.gc_Share T.b_Share___init__ .nil pass0 (pa_cons pe_int (pa_cons pe_int pa_nil))))
      (pss_cons (ps_set (i := 4) sc_text_share.nd rfl (Or.inl rfl) (pe_callTy (k_tupS (K := K) rfl) (by rfl) T.z_tuple (by decide +kernel) (pa_cons (pv 1) pa_nil)))
      (pss_cons (ps_for PassesOwn.never rfl (k_seqS (K := K) rfl (pv 2)) (pg_name (i := 5) sc_text_share.nd rfl (Or.inl rfl))
      (pss_cons (ps_set (i := 3) sc_text_share.nd rfl (Or.inl rfl) (pe_op (op_binO T.bo_Share___mul__ (ok_Share___mul__ T) (hr.mono (by decide)) T.b_Share___mul__ pass0) (pv 3) (pe_ix (k_ix (K := K) rfl) (pe_call (ok_next_shares T) (hr.mono (by decide)) (by rfl) T.g_next_shares T.F_next_shares.kp T.b_next_shares .nil pass0 (pa_cons (pv 0) (pa_cons (pv 4) pa_nil))) (pv 5) (fun _ _ => rfl))))
      (pss_one (ps_set (i := 4) sc_text_share.nd rfl (Or.inl rfl) (pe_op op_catA (pv 4) (pe_tup (pa_cons (pv 5) pa_nil)))))))
      (pss_one (ps_ret (pv 3)))))), ?_⟩
    refine go_start (σ' := [some (.ref p), some (.ref a1), some (.ref a2), none, none, none]) rfl ?_
    try dsimp only [cxOf, Cx.nox, Cx.wish]
    walk_at "go"
    intro x dx hx hdx hne
    refine share_made hx hdx (by decide) (by decide +kernel) (by decide +kernel) fun H1 s1 r1 => ⟨rfl, ?_⟩
    rw [div_all (by decide)] at r1
    walk_at "go"
    refine w_tupAny (s1.sq hS1) fun t2 H2 s2 ht2 => ?_
    walk_at "go"
    refine l_seq (b := b2) ((natI tx).map V.int) (fun i σ H' => ∃ (vs3 vt : V) (y5 : Option V), σ = [some (.ref p), some (.ref a1), some (.ref a2), some vs3, some vt, y5] ∧ Same H H' ∧ RShare T.c_Share H' vs3 (txI nd pr tx i) ∧ RVec false K H' vt (natI (pr ++ tx.take i)))
      ((s1.trans s2).sq hS2) ⟨_, _, none, rfl, s1.trans s2, RShare.mono _ _ _ _ s2 r1, ⟨t2, rfl, by rw [List.take_zero, List.append_nil]; exact ht2⟩⟩ (fun i σ H' _ ⟨_, _, _, _, s, _⟩ => s.sq hS2) ?_ ?_
    · rintro i y σ H3 hi hy ⟨vs3, vt, y5, rfl, s3, r3, tv, rfl, htv⟩
      obtain ⟨l, hl, rfl⟩ := natI_at hy
      have hli : i < tx.length := (List.getElem?_eq_some_iff.mp hl).1
      have hlm := htx l (List.mem_of_getElem? hl)
      have hgd : tx.getD i 0 = l := by rw [List.getD_eq_getElem?_getD, hl]; rfl
      have hpl : (pr ++ tx.take i).length = pr.length + i := by rw [List.length_append, List.length_take]; omega
      have hall : ∀ l ∈ pr ++ tx.take i, l < nd.emb.length := fun l' h => by
        rcases List.mem_append.mp h with h | h
        · exact hpr l' h
        · exact htx l' (List.mem_of_mem_take h)
      walk_at "go"
      refine ⟨p, nd, e, _, wd, _, rfl, hN.mono s3, ok, by omega, ⟨false, tv, rfl, htv⟩, hall, by omega, by omega, fun v' H4 s4 ⟨a4, ys4, ev, hS4, hl4, hr4⟩ => ?_⟩
      subst ev
      have hsl : (shD nd (pr ++ tx.take i)).length = nd.out.length := shD_len ok (by omega)
      have hdl : (shD nd (pr ++ tx.take i))[l]? = some ((shD nd (pr ++ tx.take i)).getD l 0) := by
        rw [List.getD_eq_getElem?_getD, List.getElem?_eq_getElem (by omega)]
        rfl
      obtain ⟨yl, hyl, rl⟩ := RSeq.get hl4 hr4 hdl
      have bl := shD_RB ok (by omega) (ls := pr ++ tx.take i) (by omega) _ (List.mem_of_getElem? hdl)
      have bt := txI_RB ok ho h0 htx i (by omega)
      have etx : txI nd pr tx (i + 1) = txI nd pr tx i * (shD nd (pr ++ tx.take i)).getD l 0 := by
        show _ * _ = _
        rw [hgd]
      generalize (shD nd (pr ++ tx.take i)).getD l 0 = q2 at rl bl etx
      generalize txI nd pr tx i = q1 at r3 bt etx
      have r34 := RShare.mono _ _ _ _ s4 r3
      walk_at "go"
      refine w_ix hS4 (atI_nat hyl) ?_
      obtain ⟨pa, da, rfl, ha⟩ := id r34
      obtain ⟨pb, db, rfl, hb⟩ := id rl
      refine ⟨pa, da, _, pb, db, _, rfl, rfl, ha, hb, _, _, q1, q2, rfl, r34, rl, bt.mono (by omega), bl.mono (by omega), fun v5 H5 s5 r5 => ?_⟩
      obtain ⟨p5, d5, e5, h5⟩ := id r5
      refine ⟨⟨p5, e5⟩, ?_⟩
      rw [← etx] at r5
      walk_at "go"
      refine ⟨by show 1 ≤ sizeLine; decide, fun t6 ht6 => ?_⟩
      have s6 := Same.new (o := .tup [.int (l : Nat)]) ht6
      have s36 := (s4.trans s5).trans s6
      walk_at "go"
      refine w_catA (s36.sq htv) (Sq.tup upd_same) (by rw [List.length_map, natI_len]; simp only [List.length_cons, List.length_nil]; omega) fun p7 H7 s7 h7 => ?_
      rw [natI_snoc, List.append_assoc] at h7
      walk_at "go"
      refine ⟨_, _, _, rfl, (s3.trans s36).trans s7, RShare.mono _ _ _ _ (s6.trans s7) r5, p7, rfl, ?_⟩
      rw [List.take_add_one, hl]
      exact h7
    · rintro σ H3 ⟨vs3, vt, y5, rfl, s3, r3, tv, rfl, htv⟩
      rw [List.length_map, natI_len] at r3
      walk_at "go"
      exact k _ _ s3 r3
/-! ### what the law keeps: rows under the letters up to them -/
def keyI (ls : List Nat) : List Key := ls.map fun (l : Nat) => Sum.inl ((l : Nat) : Int)
theorem keyI_V (ls : List Nat) : (keyI ls).map kV = (natI ls).map V.int := by
  unfold keyI natI
  rw [List.map_map, List.map_map]
  rfl
theorem keyI_inj {a b : List Nat} (h : keyI a = keyI b) : a = b := by
  have h2 := congrArg (List.map fun k : Key => match k with | .inl i => i.toNat | .inr _ => 0) h
  unfold keyI at h2
  rw [List.map_map, List.map_map] at h2
  have e : ∀ l : List Nat, l.map ((fun k : Key => match k with | .inl i => i.toNat | .inr _ => 0) ∘ fun (l : Nat) => Sum.inl ((l : Nat) : Int)) = l := fun l => by
    induction l with
    | nil => rfl
    | cons a r ih => rw [List.map_cons, ih]; rfl
  rw [e, e] at h2
  exact h2
def KD (K : PySem.W.Frag) (nd : NetD) (H : Hp) (kd : Addr) (N : Nat) : Prop := ∃ kvs : List (List Key × V), H kd = some (.dT kvs) ∧ kvs.length ≤ N ∧ ∀ (pre : List Nat) (l : Nat) (v : V), valV kvs (keyI (pre ++ [l])) = some v → RRow K H v (rowD nd (rowsD nd pre []) l)
theorem KD.same {K : PySem.W.Frag} {nd : NetD} {H H' : Hp} {kd : Addr} {N : Nat} (s : Same H H') (h : KD K nd H kd N) : KD K nd H' kd N := by
  obtain ⟨kvs, h1, h2, h3⟩ := h
  exact ⟨kvs, s _ _ h1, h2, fun pre l v e => RRow.mono _ _ _ _ s (h3 pre l v e)⟩
theorem KD.updL {K : PySem.W.Frag} {nd : NetD} {H : Hp} {kd D : Addr} {N : Nat} {o : HO} (hD : NTup (H D)) (ne : D ≠ kd) (h : KD K nd H kd N) : KD K nd (upd H D o) kd N := by
  obtain ⟨kvs, h1, h2, h3⟩ := h
  exact ⟨kvs, (upd_ne (Ne.symm ne)).trans h1, h2, fun pre l v e => RTup.upd RRow.tup RRow.mono hD (h3 pre l v e)⟩
theorem KD.put {K : PySem.W.Frag} {nd : NetD} {H : Hp} {kd : Addr} {N : Nat} {kvs : List (List Key × V)} {pre : List Nat} {l : Nat} {v : V} (h1 : H kd = some (.dT kvs)) (h2 : kvs.length ≤ N) (h3 : ∀ (pre : List Nat) (l : Nat) (v : V), valV kvs (keyI (pre ++ [l])) = some v → RRow K H v (rowD nd (rowsD nd pre []) l)) (hv : RRow K H v (rowD nd (rowsD nd pre []) l)) :
    KD K nd (upd H kd (.dT (putK kvs (keyI (pre ++ [l])) v))) kd (N + 1) := by
  refine ⟨_, upd_same, ?_, fun pre' l' v' e => RTup.upd RRow.tup RRow.mono (NTup.dT h1) ?_⟩
  · have := length_putK kvs (keyI (pre ++ [l])) v
    omega
  · rw [valV_put] at e
    split at e
    · rename_i ek
      have e2 := keyI_inj ek
      have e3 := List.append_inj' e2 rfl
      obtain ⟨rfl, e4⟩ := e3
      cases e4
      cases e
      exact hv
    · exact h3 pre' l' v' e
def sp_L_shares (K : PySem.W.Frag) : Sp := fun vs H Q _ => ∃ (v : V) (kd a : Addr) (nd : NetD) (b : Bool) (w N : Nat) (ls : List Nat), vs = [v, .ref kd, .ref a] ∧ RNet K H v nd ∧ NetOk nd w ∧ 0 < nd.out.length ∧ KD K nd H kd N ∧ N ≤ 100000 ∧ Tq b K H a ((natI ls).map V.int) ∧ (∀ l ∈ ls, l < nd.emb.length) ∧ ls.length ≤ 1000 ∧ 0 < ls.length ∧
  ∀ v' H', Fr kd H H' → KD K nd H' kd (N + ls.length) → RSeq true K (RFrac K) H' v' (shD nd ls) → Q v' H'
theorem ok_L_shares (T : Txt K mg) : FnOk P w K mg base CX0 4 T.a_L_shares T.d_L_shares ["_law_net_here", "_law_kept", "_law_letters"] (sp_L_shares K) := by
  refine T.F_L_shares.ok sc_L_shares (fun vs H Q E h => ?_) (fun cdv A outer s H vs Q E hr h => ?_)
  · obtain ⟨_, _, _, _, _, _, _, _, rfl, _⟩ := h
    rfl
  · obtain ⟨v, kd, a, nd, b, wd, N, ls, rfl, hT, ok, ho, hK, hNl, hS, hls, hz, h0, k⟩ := h
    refine ⟨_, (pss_cons (ps_set (i := 3) sc_L_shares.nd rfl (Or.inl rfl) (pe_lst pa_nil))
      (pss_cons (ps_for PassesOwn.never rfl (pi_range1 rfl T.z_range (pa_cons (pe_callB (k_lenS (K := K) rfl) (by rfl) T.z_len (by decide +kernel) (pa_cons (pv 2) pa_nil)) pa_nil)) (pg_name (i := 4) sc_L_shares.nd rfl (Or.inl rfl))
      (pss_cons (ps_set (i := 5) sc_L_shares.nd rfl (Or.inl rfl) (pe_callTy (k_tupS (K := K) rfl) (by rfl) T.z_tuple (by decide +kernel) (pa_cons (pe_slice (k_slG (K := K) rfl) (pv 2) po_none (po_some (pe_op (k_addG (K := K) rfl) (pv 4) pe_int))) pa_nil)))
      (Evl.pss_cut (ps_if (pt_cmp (pc_dnotin (u1 hr.units) (pv 5) (pv 1)) rfl) (pss_one (ps_dput (u1 hr.units) (pv 1) (pv 5) (pe_call (ok_L_row T) (hr.mono (by decide)) (by rfl) T.g_L_row T.F_L_row.kp T.b_L_row .nil pass0 (pa_cons (pv 0) (pa_cons (pv 3) (pa_cons (pe_ix (k_ix (K := K) rfl) (pv 2) (pv 4) (fun _ _ => rfl)) pa_nil)))) rfl)) pss_nil)
      (pss_one (ps_expr (k_bm (K := K) rfl PySem.F.plainAttrs_list PySem.F.slot_list_append PySem.F.type_list_append mt_append (pv 3) (pa_cons (pe_dget (u1 hr.units) (pv 1) (pv 5) (fun _ _ => rfl)) pa_nil)))))))
      (pss_cons (ps_set (i := 6) sc_L_shares.nd rfl (Or.inr rfl) (pe_ix (k_ix (K := K) rfl) (pe_ix (k_ix (K := K) rfl) (pv 3) (pe_un un_neg pe_int) (fun _ _ => rfl)) pe_int (fun _ _ => rfl)))
      (pss_one (ps_ret (pe_lc (own := [("_law_weight", 7)]) (g := gName 7) (tt := tYes) rfl sc_L_shares.nd (k_seqS (K := K) rfl (pv 6)) (blkOk_by (own := [("_law_weight", 7)]) (by kernel_rfl)) (fun _ _ _ _ _ => (pg_name (i := 7) sc_L_shares.nd rfl (by first | exact Or.inl rfl | exact Or.inr rfl))) (fun _ _ _ _ _ => pts_nil) (fun _ _ _ _ _ => (pe_call (ok_L_least T) (hr.mono (by decide)) (by rfl) T.g_L_least T.F_L_least.kp T.b_L_least .nil pass0 (pa_cons (pv 7) (pa_cons (pe_callB (k_sumS (K := K) rfl rfl) (by rfl) T.z_sum (by decide +kernel) (pa_cons (pv 6) pa_nil)) pa_nil)))))))))), ?_⟩
    refine go_start (σ' := [some v, some (.ref kd), some (.ref a), none, none, none, none, none]) rfl ?_
    try dsimp only [cxOf, Cx.nox, Cx.wish]
    obtain ⟨kvs0, hkd0, hkl0, hkv0⟩ := id hK
    have hnt : NTup (H kd) := NTup.dT hkd0
    walk_at "go"
    refine ⟨Nat.zero_le _, fun D hD => ?_⟩
    have hDk : D ≠ kd := fun e => by rw [e, hkd0] at hD; cases hD
    have hSD := ((Same.new (o := .lst []) hD).tq hS).sq
    have hlen := natI_len ls
    walk_at "go"
    refine l_range (fun i σ H' => ∃ (y4 y5 : Option V) (ys : List V), σ = [some v, some (.ref kd), some (.ref a), some (.ref D), y4, y5, none, none] ∧ Fr kd H H' ∧ KD K nd H' kd (N + i) ∧ H' D = some (.lst ys) ∧ ys.length = i ∧ ∀ (j : Nat) y d, ys[j]? = some y → (rowsD nd (ls.take i) [])[j]? = some d → RRow K H' y d)
      (by rw [natI_len]; omega) (by rw [natI_len]; omega) ⟨none, none, [], rfl, Fr.same (Same.new hD), hK.same (Same.new hD), upd_same, rfl, fun j y d h => by simp at h⟩ ?_ ?_
    · rintro i σ H3 hi ⟨y4, y5, ys, rfl, f3, hK3, hD3, hyl, hyr⟩
      rw [natI_len] at hi
      have hli : i < ls.length := by omega
      obtain ⟨l, hl⟩ : ∃ l, ls[i]? = some l := ⟨_, List.getElem?_eq_getElem hli⟩
      have hlm := hls l (List.mem_of_getElem? hl)
      have htk : ls.take (i + 1) = ls.take i ++ [l] := by rw [List.take_add_one, hl]; rfl
      have hrl : (rowsD nd (ls.take i) []).length = i := by rw [rowsD_len, List.length_take]; simp only [List.length_nil]; omega
      walk_at "go"
      refine w_slTq (f3.tqD hkd0 hS) (ys := (natI (ls.take (i + 1))).map V.int) (by rw [cutV_intTo (by omega) (by rw [List.length_map, natI_len]; omega), natI_take, show ((i : Int) + 1).toNat = i + 1 by omega]) fun p1 H4 s4 h4 => ?_
      walk_at "go"
      refine w_tupTq h4 fun p2 H5 s5 h5 => ?_
      have s45 := s4.trans s5
      have hK5 := hK3.same s45
      have hD5 := s45 _ _ hD3
      have f5 := f3.trans (Fr.same (t := kd) s45)
      have hyr5 : ∀ (j : Nat) y d, ys[j]? = some y → (rowsD nd (ls.take i) [])[j]? = some d → RRow K H5 y d := fun j y d h1 h2 => RRow.mono _ _ _ _ s45 (hyr j y d h1 h2)
      clear hyr hD3 hK3 f3 h4 s4 s5 s45
      rw [← keyI_V] at h5
      obtain ⟨kvs, hkd, hkl, hkv⟩ := hK5
      have hS5 := (f5.tqD hkd0 hS).sq
      walk_at "go"
      refine w_cut (fun σ H' => ∃ (kvs : List (List Key × V)) (v' : V), σ = [some v, some (.ref kd), some (.ref a), some (.ref D), some (.int (i : Int)), some (.ref p2), none, none] ∧ Fr kd H H' ∧ H' kd = some (.dT kvs) ∧ kvs.length ≤ N + (i + 1) ∧ (∀ (pre : List Nat) (l : Nat) (v : V), valV kvs (keyI (pre ++ [l])) = some v → RRow K H' v (rowD nd (rowsD nd pre []) l)) ∧ valV kvs (keyI (ls.take (i + 1))) = some v' ∧ H' D = some (.lst ys) ∧ H' p2 = some (.tup ((keyI (ls.take (i + 1))).map kV)) ∧ ∀ (j : Nat) y d, ys[j]? = some y → (rowsD nd (ls.take i) [])[j]? = some d → RRow K H' y d) ?_ ?_
      · walk_at "go"
        refine w_dnotin ?_
        walk_at "go"
        refine ⟨kd, _, rfl, DGet.t hkd h5, ?_⟩
        cases hv : valV kvs (keyI (ls.take (i + 1))) with
        | none =>
          walk_at "go"
          rw [show (!(none : Option V).isSome) = true from rfl, if_pos rfl]
          walk_at "go"
          have hnl : nth (natI ls) (i : Int) = (l : Int) := by
            rw [nth_nat, natI, List.getD_eq_getElem?_getD, List.getElem?_map, hl]
            rfl
          rw [hnl]
          refine ⟨v, _, nd, rowsD nd (ls.take i) [], l, wd, rfl, Fr.rep RNet.mono RNet.tup f5 hnt hT, ok, ⟨D, ys, rfl, Sq.lst hD5, by rw [hyl, hrl], hyr5⟩, rowsD_ok ok _ _ (fun l' hm => hls l' (List.mem_of_mem_take hm)) (List.forall_mem_nil _), by rw [hrl]; omega, hlm, fun v6 H6 s6 r6 => ?_⟩
          walk_at "go"
          refine ⟨kd, _, rfl, DPut.t (s6 _ _ hkd) (s6 _ _ h5) (by rw [sizeLine_eq]; omega), ?_⟩
          walk_at "go"
          have hkv6 : ∀ (pre : List Nat) (l : Nat) (v : V), valV kvs (keyI (pre ++ [l])) = some v → RRow K H6 v (rowD nd (rowsD nd pre []) l) := fun pre l v e => RRow.mono _ _ _ _ s6 (hkv pre l v e)
          have hkd6 := s6 _ _ hkd
          have nt6 : NTup (H6 kd) := NTup.dT hkd6
          obtain ⟨kvs7, g1, g2, g3⟩ := KD.put hkd6 hkl hkv6 r6
          have e7 : kvs7 = putK kvs (keyI (ls.take i ++ [l])) v6 := by
            rw [upd_same] at g1
            cases g1
            rfl
          subst e7
          rw [htk]
          refine ⟨_, v6, rfl, (f5.trans (Fr.same s6)).upd _, upd_same, by omega, g3, by rw [valV_put, if_pos rfl], (upd_ne hDk).trans (s6 _ _ hD5), ?_, fun j y d h1 h2 => RTup.upd RRow.tup RRow.mono nt6 (RRow.mono _ _ _ _ s6 (hyr5 j y d h1 h2))⟩
          rw [← htk]
          exact (upd_ne (fun e => by rw [e, hkd] at h5; cases h5)).trans (s6 _ _ h5)
        | some v' =>
          walk_at "go"
          rw [show (!(some v').isSome) = false from rfl, if_neg (by decide)]
          walk_at "go"
          exact ⟨kvs, v', rfl, f5, hkd, by omega, hkv, hv, hD5, h5, hyr5⟩
      · clear hyr5 hD5 h5 f5 hkv hkd hkl hS5
        rintro σ H6 ⟨kvs6, v', rfl, f6, hkd6, hkl6, hkv6, hv6, hD6, h6, hyr6⟩
        walk_at "go"
        refine ⟨kd, v', rfl, by rw [← hv6]; exact DGet.t hkd6 h6, ?_⟩
        walk_at "go"
        refine w_append hD6 (line_of1 (by omega)) ?_
        walk_at "go"
        have ntD : NTup (H6 D) := NTup.lst hD6
        rw [htk] at hv6
        have r6 := hkv6 _ _ _ hv6
        refine ⟨_, _, ys ++ [v'], rfl, fun b u hb hbu => ?_, KD.updL ntD hDk ⟨kvs6, hkd6, hkl6, hkv6⟩, upd_same, by rw [List.length_append, hyl]; rfl, fun j y d h1 h2 => ?_⟩
        · rw [upd_ne (fun e => by rw [e, hD] at hbu; cases hbu)]
          exact f6 _ _ hb hbu
        · rw [htk, rowsD_snoc] at h2
          refine RTup.upd RRow.tup RRow.mono ntD ?_
          by_cases hj : j < i
          · rw [List.getElem?_append_left (by omega)] at h1 h2
            exact hyr6 j y d h1 h2
          · have hj1 := (List.getElem?_eq_some_iff.mp h1).1
            rw [List.length_append] at hj1
            have ej : j = i := by
              have : j < ys.length + 1 := hj1
              omega
            subst ej
            rw [List.getElem?_append_right (by omega), hyl, Nat.sub_self] at h1
            rw [List.getElem?_append_right (by omega), hrl, Nat.sub_self] at h2
            cases h1
            cases h2
            exact r6
    · rintro σ H3 ⟨y4, y5, ys, rfl, f3, hK3, hD3, hyl, hyr⟩
      have en : ((natI ls).length : Int).toNat = ls.length := by rw [natI_len]; rfl
      rw [en] at hK3 hyl hyr
      rw [List.take_length] at hyr
      obtain ⟨r, hr1, hr2⟩ := wN_last (nd := nd) h0
      have hyy : ys[ls.length - 1]? = some (ys[ls.length - 1]'(by omega)) := List.getElem?_eq_getElem (by omega)
      generalize ys[ls.length - 1]'(by omega) = yl at hyy
      obtain ⟨ay, y1, y2, rfl, hy1, _, aw, rfl, hw⟩ := hyr _ _ _ hyy hr1
      rw [hr2] at hw
      obtain ⟨hw1, hw2⟩ := wN_ok ok h0
      obtain ⟨hs1, hs2⟩ := wN_sum ok ho h0
      have ho12 := ok.o12
      walk_at "go"
      refine w_ix (Sq.lst hD3) (last_atV (n := ls.length - 1) hyy (by omega)) ?_
      walk_at "go"
      refine w_ix hy1 (atI_nat (j := 1) rfl) ?_
      walk_at "go"
      refine c_rep (R := RFrac K) RFrac.mono RFrac.tup ((wN nd ls).map V.int) hw (shD nd ls) (by unfold shD; rw [List.length_map, List.length_map]) (line_of (by rw [List.length_map]; omega)) (fun _ => rfl) (fun i x d H4 N hi hx hd s4 hN4 => ?_) (fun D4 H4 ys4 hD4 s4 e4 hly hry => ?_)
      · obtain ⟨rfl, hi1⟩ := vec_at hx
        have hm := hw2 _ (nth_mem (ns := wN nd ls) (i := ((i : Nat) : Int)) (by omega) (by omega))
        have ed : d = Rat.divInt (nth (wN nd ls) (i : Nat)) (wN nd ls).sum := by
          unfold shD at hd
          rw [List.getElem?_map, List.getElem?_eq_getElem hi1] at hd
          rw [nth_nat, List.getD_eq_getElem?_getD, List.getElem?_eq_getElem hi1]
          exact (Option.some.inj hd).symm
        subst ed
        walk_at "go"
        exact ⟨_, _, rfl, by omega, big_up (n := 11) (by show (nth (wN nd ls) (i : Nat)).natAbs < 2048; omega) (by omega), big_up (n := 11) (by show (wN nd ls).sum.natAbs < 2048; omega) (by omega), fun v' H5 s5 r5 => hN4 _ _ s5 r5⟩
      · walk_at "go"
        exact k _ _ (f3.trans (Fr.same s4)) (hK3.same s4) ⟨D4, ys4, rfl, Sq.lst e4, hly, hry⟩
def sp_L_text_share (K : PySem.W.Frag) : Sp := fun vs H Q _ => ∃ (v : V) (kd a1 a2 : Addr) (nd : NetD) (b1 b2 : Bool) (w N : Nat) (pr tx : List Nat), vs = [v, .ref kd, .ref a1, .ref a2] ∧ RNet K H v nd ∧ NetOk nd w ∧ nd.out.length = nd.emb.length ∧ 0 < nd.emb.length ∧ KD K nd H kd N ∧ N ≤ 10000 ∧ Sq b1 K H a1 ((natI pr).map V.int) ∧ Sq b2 K H a2 ((natI tx).map V.int) ∧ (∀ l ∈ pr, l < nd.emb.length) ∧ (∀ l ∈ tx, l < nd.emb.length) ∧
  0 < pr.length ∧ pr.length ≤ 12 ∧ tx.length ≤ 12 ∧ ∀ v' H', Fr kd H H' → KD K nd H' kd (N + 24 * tx.length) → RFrac K H' v' (txI nd pr tx tx.length) → Q v' H'
theorem KD.le {K : PySem.W.Frag} {nd : NetD} {H : Hp} {kd : Addr} {N M : Nat} (h : KD K nd H kd N) (hl : N ≤ M) : KD K nd H kd M := by
  obtain ⟨kvs, h1, h2, h3⟩ := h
  exact ⟨kvs, h1, by omega, h3⟩
theorem ok_L_text_share (T : Txt K mg) : FnOk P w K mg base CX0 5 T.a_L_text_share T.d_L_text_share ["_law_net_here", "_law_kept", "_law_prompt", "_law_text"] (sp_L_text_share K) := by
  refine T.F_L_text_share.ok sc_L_text_share (fun vs H Q E h => ?_) (fun cdv A outer s H vs Q E hr h => ?_)
  · obtain ⟨_, _, _, _, _, _, _, _, _, _, _, rfl, _⟩ := h
    rfl
  · obtain ⟨v, kd, a1, a2, nd, b1, b2, wd, N, pr, tx, rfl, hT, ok, ho, hL0, hK, hN1, hS1, hS2, hpr, htx, h0, h12, ht12, k⟩ := h
    refine ⟨_, (pss_cons (ps_set (i := 4) sc_L_text_share.nd rfl (Or.inl rfl) (pe_tup (pa_cons pe_int (pa_cons pe_int pa_nil))))
      (pss_cons (ps_for PassesOwn.never rfl (pi_range1 rfl T.z_range (pa_cons (pe_callB (k_lenS (K := K) rfl) (by rfl) T.z_len (by decide +kernel) (pa_cons (pv 3) pa_nil)) pa_nil)) (pg_name (i := 5) sc_L_text_share.nd rfl (Or.inl rfl))
      (pss_one (ps_set (i := 4) sc_L_text_share.nd rfl (Or.inl rfl) (pe_call (ok_L_by T) (hr.mono (by decide)) (by rfl) T.g_L_by T.F_L_by.kp T.b_L_by .nil pass0 (pa_cons (pv 4) (pa_cons (pe_ix (k_ix (K := K) rfl) (pe_call (ok_L_shares T) (hr.mono (by decide)) (by rfl) T.g_L_shares T.F_L_shares.kp T.b_L_shares .nil pass0 (pa_cons (pv 0) (pa_cons (pv 1) (pa_cons (pe_op (k_addG (K := K) rfl) (pe_callTy (k_listS (K := K) rfl) (by rfl) T.z_list (by decide +kernel) (pa_cons (pv 2) pa_nil)) (pe_callTy (k_listS (K := K) rfl) (by rfl) T.z_list (by decide +kernel) (pa_cons (pe_slice (k_slG (K := K) rfl) (pv 3) po_none (po_some (pv 5))) pa_nil))) pa_nil)))) (pe_ix (k_ix (K := K) rfl) (pv 3) (pv 5) (fun _ _ => rfl)) (fun _ _ => rfl)) pa_nil))))))
      (pss_one (ps_ret (pv 4))))), ?_⟩
    refine go_start (σ' := [some v, some (.ref kd), some (.ref a1), some (.ref a2), none, none]) rfl ?_
    try dsimp only [cxOf, Cx.nox, Cx.wish]
    obtain ⟨kvs0, hkd0, hkl0, hkv0⟩ := id hK
    have hnt : NTup (H kd) := NTup.dT hkd0
    have hlen := natI_len tx
    walk_at "go"
    refine ⟨by show 2 ≤ sizeLine; decide, fun q hq => ?_⟩
    have s1 := Same.new (o := .tup [.int 1, .int 1]) hq
    walk_at "go"
    refine l_range (fun i σ H' => ∃ (vf : V) (y5 : Option V), σ = [some v, some (.ref kd), some (.ref a1), some (.ref a2), some vf, y5] ∧ Fr kd H H' ∧ KD K nd H' kd (N + 24 * i) ∧ RFrac K H' vf (txI nd pr tx i))
      (by rw [natI_len]; omega) (by rw [natI_len]; omega) ⟨_, none, rfl, Fr.same s1, hK.same s1, q, rfl, Sq.tup upd_same⟩ ?_ ?_
    · rintro i σ H3 hi ⟨vf, y5, rfl, f3, hK3, r3⟩
      rw [natI_len] at hi
      have hli : i < tx.length := by omega
      obtain ⟨l, hl⟩ : ∃ l, tx[i]? = some l := ⟨_, List.getElem?_eq_getElem hli⟩
      have hlm := htx l (List.mem_of_getElem? hl)
      have hgd : tx.getD i 0 = l := by rw [List.getD_eq_getElem?_getD, hl]; rfl
      have hpl : (pr ++ tx.take i).length = pr.length + i := by rw [List.length_append, List.length_take]; omega
      have hall : ∀ l ∈ pr ++ tx.take i, l < nd.emb.length := fun l' h => by
        rcases List.mem_append.mp h with h | h
        · exact hpr l' h
        · exact htx l' (List.mem_of_mem_take h)
      have hS13 := f3.sqD hkd0 hS1
      have hS23 := f3.sqD hkd0 hS2
      have hT3 := Fr.rep RNet.mono RNet.tup f3 hnt hT
      walk_at "go"
      refine w_listS hS13 fun p4 hp4 => ?_
      have s4 := Same.new (o := .lst ((natI pr).map V.int)) hp4
      walk_at "go"
      refine w_slAny (s4.sq hS23) (ys := (natI (tx.take i)).map V.int) (by rw [cutV_intTo (by omega) (by rw [List.length_map, natI_len]; omega), natI_take, Int.toNat_natCast]) fun p5 H5 s5 h5 => ?_
      walk_at "go"
      refine w_listS h5 fun p6 hp6 => ?_
      have s6 := Same.new (o := .lst ((natI (tx.take i)).map V.int)) hp6
      walk_at "go"
      refine w_catLL ((s5.trans s6) _ _ upd_same) upd_same (by rw [List.length_map, List.length_map, natI_len, natI_len, List.length_take, sizeLine_eq]; omega) fun p7 hp7 => ?_
      rw [natI_catV]
      have s7 := Same.new (o := .lst ((natI (pr ++ tx.take i)).map V.int)) hp7
      have e7 : (upd (upd H5 p6 (.lst ((natI (tx.take i)).map V.int))) p7 (.lst ((natI (pr ++ tx.take i)).map V.int))) p7 = some (.lst ((natI (pr ++ tx.take i)).map V.int)) := upd_same
      generalize upd (upd H5 p6 (.lst ((natI (tx.take i)).map V.int))) p7 (.lst ((natI (pr ++ tx.take i)).map V.int)) = H7 at s7 e7 ⊢
      have s37 := ((s4.trans s5).trans s6).trans s7
      walk_at "go"
      refine ⟨v, kd, p7, nd, true, wd, _, _, rfl, RNet.mono _ _ _ _ s37 hT3, ok, by omega, hK3.same s37, by omega, SqL.of e7, hall, by omega, by omega, fun v8 H8 f8 hK8 ⟨a8, ys8, ev, hS8, hl8, hr8⟩ => ?_⟩
      subst ev
      have hsl : (shD nd (pr ++ tx.take i)).length = nd.out.length := shD_len ok (by omega)
      have hdl : (shD nd (pr ++ tx.take i))[l]? = some ((shD nd (pr ++ tx.take i)).getD l 0) := by
        rw [List.getD_eq_getElem?_getD, List.getElem?_eq_getElem (by omega)]
        rfl
      obtain ⟨yl, hyl, rl⟩ := RSeq.get hl8 hr8 hdl
      have bl := shD_RB ok (by omega) (ls := pr ++ tx.take i) (by omega) _ (List.mem_of_getElem? hdl)
      have bt := txI_RB ok ho h0 htx i (by omega)
      have etx : txI nd pr tx (i + 1) = txI nd pr tx i * (shD nd (pr ++ tx.take i)).getD l 0 := by
        show _ * _ = _
        rw [hgd]
      obtain ⟨kvs3, hkd3, _, _⟩ := id hK3
      have f38 := (Fr.same (t := kd) s37).trans f8
      have hS28 := f38.sqD hkd3 hS23
      have hnl : nth (natI tx) (i : Int) = (l : Int) := by
        rw [nth_nat, natI, List.getD_eq_getElem?_getD, List.getElem?_map, hl]
        rfl
      have r38 := Fr.rep RFrac.mono RFrac.tup f38 (NTup.dT hkd3) r3
      walk_at "go"
      rw [hnl]
      refine w_ix hS8 (atI_nat hyl) ?_
      walk_at "go"
      refine ⟨_, _, _, _, rfl, r38, rl, bt.mono (by omega), bl.mono (by omega), fun v9 H9 s9 r9 => ?_⟩
      rw [← etx] at r9
      walk_at "go"
      exact ⟨_, _, rfl, (f3.trans f38).trans (Fr.same s9), (hK8.same s9).le (by omega), r9⟩
    · rintro σ H3 ⟨vf, y5, rfl, f3, hK3, r3⟩
      rw [show ((natI tx).length : Int).toNat = tx.length by rw [natI_len]; rfl] at hK3 r3
      walk_at "go"
      exact k _ _ f3 hK3 r3

/-! ### nets with an end made; drawn letters -/
theorem told_ofE {K : PySem.W.Frag} {C : Addr} {H1 : Hp} {nd : NetD} {w : Nat} (ok : NetOk nd w) (hpr : nd.p ∈ primes) {v1 v2 v3 v4 e : V} {x dx : Addr} (hx : H1 x = none) (hdx : H1 dx = none) {Q : VK} {E : XK}
    (r1 : RMat K H1 v1 nd.emb) (r2 : RVec false K H1 v2 nd.sh) (r3 : RSeq false K (RSeq false K (RMat K)) H1 v3 nd.lay) (r4 : RMat K H1 v4 nd.out) (q : ∀ H', Same H1 H' → IsNet K C H' x nd e → Q .non H') :
    sp_Net___init__ K C [.ref x, .int nd.p, v1, v2, v3, v4, e] (upd (upd H1 dx (.own x)) x (.ins C dx [])) Q E := by
  have s := make_same (o := .own x) (o' := .ins C dx []) hx hdx
  have := ok.e12
  have := ok.o12
  have := ok.l3
  refine ⟨x, dx, nd, v1, v2, v3, v4, e, rfl, upd_same, hpr, RMatX.mono _ _ _ _ s r1.x, RVecX.mono _ _ _ _ s ⟨false, r2⟩, RLayX.mono _ _ _ _ s (RLay.x r3), RMatX.mono _ _ _ _ s r4.x, by omega, by omega, by omega, fun L hL => ?_, fun H' s' r => q H' ((s.trans s').trans (hide_same _ _)) r⟩
  obtain ⟨h5, hm⟩ := ok.lay L hL
  have := ok.w4
  exact ⟨by omega, fun M hM => by rw [(hm M hM).1]; omega⟩
def letP (ns : List Int) (L o : Int) (n : Nat) : List Nat := (List.range n).map fun k => (nth ns (o + ((k : Nat) : Int)) % L).toNat
theorem letP_len (ns : List Int) (L o : Int) (n : Nat) : (letP ns L o n).length = n := by unfold letP; rw [List.length_map, List.length_range]
theorem letP_lt {ns : List Int} {L : Nat} {o : Int} {n : Nat} (hL : 0 < L) : ∀ l ∈ letP ns L o n, l < L := fun l hl => by
  obtain ⟨x, _, e⟩ := List.mem_map.mp hl
  have h1 : 0 ≤ nth ns (o + ((x : Nat) : Int)) % (L : Int) := Int.emod_nonneg _ (by omega)
  have h2 : nth ns (o + ((x : Nat) : Int)) % (L : Int) < L := Int.emod_lt_of_pos _ (by omega)
  omega
theorem letP_nth {ns : List Int} {L : Nat} {o : Int} {n i : Nat} (hL : 0 < L) (hi : i < n) : nth (natI (letP ns L o n)) ((i : Nat) : Int) = nth ns (o + ((i : Nat) : Int)) % (L : Int) := by
  have h1 : 0 ≤ nth ns (o + ((i : Nat) : Int)) % (L : Int) := Int.emod_nonneg _ (by omega)
  unfold natI letP
  rw [List.map_map, nth_nat, List.getD_eq_getElem?_getD, List.getElem?_map, List.getElem?_eq_getElem (by rw [List.length_range]; exact hi), List.getElem_range]
  exact Int.toNat_of_nonneg h1

/-! ### _law_asked -/
theorem IsNet.fr {K : PySem.W.Frag} {C : Addr} {H H' : Hp} {p kd : Addr} {nd : NetD} {e : V} {kvs : List (List Key × V)} (f : Fr kd H H') (hk : H kd = some (.dT kvs)) (h : IsNet K C H p nd e) : IsNet K C H' p nd e := by
  obtain ⟨dx, v1, v2, v3, v4, h0, h1, h2, h3, h4⟩ := h
  have hn := NTup.dT hk
  exact ⟨dx, v1, v2, v3, v4, f _ _ (fun e => by rw [e, hk] at h0; cases h0) h0, Fr.rep RMat.mono RMat.tup f hn h1, Fr.rep RVec.mono RVec.tup f hn h2, Fr.rep (RSeq.mono (RSeq.mono RMat.mono)) (RSeq.tup (RSeq.tup RMat.tup)) f hn h3, Fr.rep RMat.mono RMat.tup f hn h4⟩
theorem RShare.fr {C : Addr} {H H' : Hp} {kd : Addr} {kvs : List (List Key × V)} {v : V} {q : Rat} (f : Fr kd H H') (hk : H kd = some (.dT kvs)) (h : RShare C H v q) : RShare C H' v q := by
  obtain ⟨p, dx, e, h⟩ := h
  exact ⟨p, dx, e, f _ _ (fun e => by rw [e, hk] at h; cases h) h⟩
theorem w_eqIntsL {K : PySem.W.Frag} {H : Hp} {Q : VK} {a a' : Addr} {ns : List Int} (h : Sq true K H a (ns.map V.int)) (h' : Sq true K H a' (ns.map V.int)) (q : Q (.bl true) H) : rEqG K (.ref a) (.ref a') H Q :=
  w_eqD (dp_ints h) (dp_ints h') (shaped_ints ns) (shaped_ints ns) (by
    have e : PyData.eqv (.list (ns.map PyData.int)) (.list (ns.map PyData.int)) = true := by simp only [PyData.eqv, eqvAll_ints]
    show Q (.bl (PyData.eqv (.list (ns.map PyData.int)) (.list (ns.map PyData.int)))) H
    rw [e]; exact q)
theorem Same.fr {H0 H H' : Hp} {kd : Addr} (s : Same H0 H) (hk : H0 kd = none) (f : Fr kd H H') : Same H0 H' := fun b u h => f b u (ne_of_none h hk) (s b u h)
def sp_L_asked (K : PySem.W.Frag) (C : Addr) : Sp := fun vs H Q _ => ∃ (p kd pp tp : Addr) (v e : V) (nd : NetD) (w N : Nat) (pr tx : List Nat) (bl : Bool), vs = [.ref p, v, .ref kd, .int (nd.emb.length : Nat), .ref pp, .ref tp, .bl bl] ∧ IsNet K C H p nd e ∧ RNet K H v nd ∧ NetOk nd w ∧ nd.out.length = nd.emb.length ∧ 0 < nd.emb.length ∧ KD K nd H kd N ∧ N ≤ 5000 ∧
  H pp = some (.tup ((natI pr).map V.int)) ∧ H tp = some (.tup ((natI tx).map V.int)) ∧ (∀ l ∈ pr, l < nd.emb.length) ∧ (∀ l ∈ tx, l < nd.emb.length) ∧ 0 < pr.length ∧ pr.length ≤ 6 ∧ tx.length ≤ 6 ∧ ∀ H', Fr kd H H' → KD K nd H' kd (N + 150) → Q (.bl true) H'
theorem ok_L_asked (T : Txt K mg) : FnOk P w K mg base CX0 9 T.a_L_asked T.d_L_asked ["_law_told", "_law_net_here", "_law_kept", "_law_letters", "_law_prompt", "_law_text", "_law_listed"] (sp_L_asked K T.c_Net) := by
  refine T.F_L_asked.ok sc_L_asked (fun vs H Q E h => ?_) (fun cdv A outer s H vs Q E hr h => ?_)
  · obtain ⟨_, _, _, _, _, _, _, _, _, _, _, _, rfl, _⟩ := h
    rfl
  · obtain ⟨p, kd, pp, tp, v, e, nd, wd, N, pr, tx, bl, rfl, hN, hT, ok, ho, hL0, hK, hN5, hpp, htp, hpr, htx, h0, h6, ht6, k⟩ := h
    have cS := T.C_Share
    have n0 := T.n_Share_over
    have n1 := T.n_Share_under
    have he12 := ok.e12
    refine ⟨_, (pss_cons (ps_set (i := 7) sc_L_asked.nd rfl (Or.inl rfl) (pe_lst (pa_cons (pe_callTy (k_tupS (K := K) rfl) (by rfl) T.z_tuple (by decide +kernel) (pa_cons (pv 4) pa_nil)) (pa_cons (pe_callTy (k_tupS (K := K) rfl) (by rfl) T.z_tuple (by decide +kernel) (pa_cons (pv 5) pa_nil)) pa_nil))))
      (Evl.pss_cut (ps_if (k_tru (K := K) rfl (pv 6) (by intro _; rfl)) (pss_one (ps_set (i := 7) sc_L_asked.nd rfl (Or.inl rfl) (pe_lst (pa_cons (pe_callTy (k_listS (K := K) rfl) (by rfl) T.z_list (by decide +kernel) (pa_cons (pv 4) pa_nil)) (pa_cons (pe_callTy (k_listS (K := K) rfl) (by rfl) T.z_list (by decide +kernel) (pa_cons (pv 5) pa_nil)) pa_nil))))) pss_nil)
      (pss_cons (ps_set (i := 8) sc_L_asked.nd rfl (Or.inl rfl) (pe_call (ok_next_shares T) (hr.mono (by decide)) (by rfl) T.g_next_shares T.F_next_shares.kp T.b_next_shares .nil pass0 (pa_cons (pv 0) (pa_cons (pe_ix (k_ix (K := K) rfl) (pv 7) pe_int (fun _ _ => rfl)) pa_nil))))
      (pss_cons (ps_set (i := 9) sc_L_asked.nd rfl (Or.inl rfl) (pe_call (ok_L_shares T) (hr.mono (by decide)) (by rfl) T.g_L_shares T.F_L_shares.kp T.b_L_shares .nil pass0 (pa_cons (pv 1) (pa_cons (pv 2) (pa_cons (pv 4) pa_nil)))))
      (pss_cons (ps_if (PW.pt (pw_or (pt_not (k_tru (K := K) rfl (pe_callB (k_isi (K := K) rfl) (by rfl) T.z_isinstance (by decide +kernel) (pa_cons (pv 8) (pa_cons (pe_bltn (v := .ty "tuple") (by rfl) T.z_tuple (by decide +kernel) rfl) pa_nil))) (by intro _; rfl))) (pw_or1 (pt_cmpR (k_neG (K := K) rfl hr.units) (pe_callB (k_lenS (K := K) rfl) (by rfl) T.z_len (by decide +kernel) (pa_cons (pv 8) pa_nil)) (pv 3) (nomark _))))) (pss_one (ps_ret pe_bl)) pss_nil)
      (pss_cons (ps_set (i := 10) sc_L_asked.nd rfl (Or.inl rfl) (pe_tup (pa_cons pe_int (pa_cons pe_int pa_nil))))
      (pss_cons (ps_for PassesOwn.never rfl (pi_range1 rfl T.z_range (pa_cons (pv 3) pa_nil)) (pg_name (i := 11) sc_L_asked.nd rfl (Or.inl rfl))
      (pss_cons (ps_if (pt_not (k_tru (K := K) rfl (pe_call (ok_L_is_share T) (hr.mono (by decide)) (by rfl) T.g_L_is_share T.F_L_is_share.kp T.b_L_is_share .nil pass0 (pa_cons (pe_ix (k_ix (K := K) rfl) (pv 8) (pv 11) (fun _ _ => rfl)) (pa_cons (pe_ix (k_ix (K := K) rfl) (pv 9) (pv 11) (fun _ _ => rfl)) pa_nil))) (by intro _; rfl))) (pss_one (ps_ret pe_bl)) pss_nil)
      (pss_one (ps_set (i := 10) sc_L_asked.nd rfl (Or.inl rfl) (pe_call (ok_L_plus T) (hr.mono (by decide)) (by rfl) T.g_L_plus T.F_L_plus.kp T.b_L_plus .nil pass0 (pa_cons (pv 10) (pa_cons (pe_tup (pa_cons (k_fld (K := K) rfl (pe_ix (k_ix (K := K) rfl) (pv 8) (pv 11) (fun _ _ => rfl)) rfl) (pa_cons (k_fld (K := K) rfl (pe_ix (k_ix (K := K) rfl) (pv 8) (pv 11) (fun _ _ => rfl)) rfl) pa_nil))) pa_nil)))))))
      (pss_cons (ps_if (pt_cmpR (k_neG (K := K) rfl hr.units) (pv 10) (pe_tup (pa_cons pe_int (pa_cons pe_int pa_nil))) (nomark _)) (pss_one (ps_ret pe_bl)) pss_nil)
      (pss_cons (ps_if (pt_not (k_tru (K := K) rfl (pe_call (ok_L_is_share T) (hr.mono (by decide)) (by rfl) T.g_L_is_share T.F_L_is_share.kp T.b_L_is_share .nil pass0 (pa_cons (pe_call (ok_text_share T) (hr.mono (by decide)) (by rfl) T.g_text_share T.F_text_share.kp T.b_text_share .nil pass0 (pa_cons (pv 0) (pa_cons (pe_ix (k_ix (K := K) rfl) (pv 7) pe_int (fun _ _ => rfl)) (pa_cons (pe_ix (k_ix (K := K) rfl) (pv 7) pe_int (fun _ _ => rfl)) pa_nil)))) (pa_cons (pe_call (ok_L_text_share T) (hr.mono (by decide)) (by rfl) T.g_L_text_share T.F_L_text_share.kp T.b_L_text_share .nil pass0 (pa_cons (pv 1) (pa_cons (pv 2) (pa_cons (pv 4) (pa_cons (pv 5) pa_nil))))) pa_nil))) (by intro _; rfl))) (pss_one (ps_ret pe_bl)) pss_nil)
      (pss_cons (ps_if (pt_not (k_tru (K := K) rfl (pe_call (ok_L_is_share T) (hr.mono (by decide)) (by rfl) T.g_L_is_share T.F_L_is_share.kp T.b_L_is_share .nil pass0 (pa_cons (pe_call (ok_text_share T) (hr.mono (by decide)) (by rfl) T.g_text_share T.F_text_share.kp T.b_text_share .nil pass0 (pa_cons (pv 0) (pa_cons (pe_ix (k_ix (K := K) rfl) (pv 7) pe_int (fun _ _ => rfl)) (pa_cons (pe_tup pa_nil) pa_nil)))) (pa_cons (pe_tup (pa_cons pe_int (pa_cons pe_int pa_nil))) pa_nil))) (by intro _; rfl))) (pss_one (ps_ret pe_bl)) pss_nil)
      (pss_one (ps_ret (pe_and (pe_cmpR (k_eqG (K := K) rfl hr.units) (pe_callTy (k_listS (K := K) rfl) (by rfl) T.z_list (by decide +kernel) (pa_cons (pe_ix (k_ix (K := K) rfl) (pv 7) pe_int (fun _ _ => rfl)) pa_nil)) (pe_callTy (k_listS (K := K) rfl) (by rfl) T.z_list (by decide +kernel) (pa_cons (pv 4) pa_nil)) (nomark _)) (pe_one (pe_cmpR (k_eqG (K := K) rfl hr.units) (pe_callTy (k_listS (K := K) rfl) (by rfl) T.z_list (by decide +kernel) (pa_cons (pe_ix (k_ix (K := K) rfl) (pv 7) pe_int (fun _ _ => rfl)) pa_nil)) (pe_callTy (k_listS (K := K) rfl) (by rfl) T.z_list (by decide +kernel) (pa_cons (pv 5) pa_nil)) (nomark _)))))))))))))))), ?_⟩
    refine go_start (σ' := [some (.ref p), some v, some (.ref kd), some (.int (nd.emb.length : Nat)), some (.ref pp), some (.ref tp), some (.bl bl), none, none, none, none, none]) rfl ?_
    try dsimp only [cxOf, Cx.nox, Cx.wish]
    obtain ⟨kvs0, hkd0, hkl0, hkv0⟩ := id hK
    have hnt : NTup (H kd) := NTup.dT hkd0
    walk_at "go"
    refine w_tupTq (b := false) hpp fun p1 H1 s1 e1 => ?_
    walk_at "go"
    refine w_tupTq (b := false) (s1 _ _ htp) fun p2 H2 s2 e2 => ?_
    walk_at "go"
    refine ⟨by show 2 ≤ sizeLine; decide, fun D hD => ?_⟩
    have s3 := Same.new (o := .lst [.ref p1, .ref p2]) hD
    have s03 := (s1.trans s2).trans s3
    walk_at "go"
    refine w_cut (fun σ H' => ∃ (D' h1 h2 : Addr) (b : Bool), σ = [some (.ref p), some v, some (.ref kd), some (.int (nd.emb.length : Nat)), some (.ref pp), some (.ref tp), some (.bl bl), some (.ref D'), none, none, none, none] ∧ Same H H' ∧ H' D' = some (.lst [.ref h1, .ref h2]) ∧ Sq b K H' h1 ((natI pr).map V.int) ∧ Sq b K H' h2 ((natI tx).map V.int)) ?_ ?_
    · walk_at "go"
      refine w_iteB (fun hb => ?_) (fun hb => ?_)
      · walk_at "go"
        refine w_listS (b := false) (Sq.tup (s03 _ _ hpp)) fun p4 hp4 => ?_
        have s4 := Same.new (o := .lst ((natI pr).map V.int)) hp4
        have e4 : (upd (upd H2 D (.lst [.ref p1, .ref p2])) p4 (.lst ((natI pr).map V.int))) p4 = some (.lst ((natI pr).map V.int)) := upd_same
        generalize upd (upd H2 D (.lst [.ref p1, .ref p2])) p4 (.lst ((natI pr).map V.int)) = H4 at s4 e4 ⊢
        walk_at "go"
        refine w_listS (b := false) (Sq.tup ((s03.trans s4) _ _ htp)) fun p5 hp5 => ?_
        have s5 := Same.new (o := .lst ((natI tx).map V.int)) hp5
        walk_at "go"
        refine ⟨by show 2 ≤ sizeLine; decide, fun D6 hD6 => ?_⟩
        have s6 := Same.new (o := .lst [.ref p4, .ref p5]) hD6
        walk_at "go"
        exact ⟨D6, p4, p5, true, rfl, ((s03.trans s4).trans s5).trans s6, upd_same, Sq.lst ((s5.trans s6) _ _ e4), Sq.lst (s6 _ _ upd_same)⟩
      · walk_at "go"
        exact ⟨D, p1, p2, false, rfl, s03, upd_same, Sq.tup ((s2.trans s3) _ _ e1), Sq.tup (s3 _ _ e2)⟩
    · clear s1 s2 s3 s03 e1 e2 hD
      rintro σ H1 ⟨D, h1, h2, b, rfl, s1, hD, hh1, hh2⟩
      walk_at "go"
      refine w_ix (Sq.lst hD) (atI_nat (j := 0) rfl) ?_
      walk_at "go"
      refine ⟨p, nd, e, _, wd, pr, rfl, hN.mono s1, ok, by omega, ⟨b, h1, rfl, hh1⟩, hpr, by omega, h0, fun v2 H2 s2 ⟨a2, ys, ev, hS2, hyl, hyr⟩ => ?_⟩
      subst ev
      have s02 := s1.trans s2
      walk_at "go"
      refine ⟨v, kd, pp, nd, false, wd, N, pr, rfl, RNet.mono _ _ _ _ s02 hT, ok, by omega, hK.same s02, by omega, s02 _ _ hpp, hpr, by omega, h0, fun v3 H3 f3 hK3 ⟨a3, zs, ev, hS3, hzl, hzr⟩ => ?_⟩
      subst ev
      have hkd2 := s02 _ _ hkd0
      have hS2 := f3.sqD hkd2 hS2
      have hyr : ∀ (i : Nat) y x, ys[i]? = some y → (shD nd pr)[i]? = some x → RShare T.c_Share H3 y x := fun i y x g1 g2 => (hyr i y x g1 g2).fr f3 hkd2
      have hD3 : Sq true K H3 D [.ref h1, .ref h2] := f3.sqD (b := true) hkd2 (Sq.lst (s2 _ _ hD))
      have hh13 := f3.sqD hkd2 (s2.sq hh1)
      have hh23 := f3.sqD hkd2 (s2.sq hh2)
      have f03 := (Fr.same (t := kd) s02).trans f3
      have hshl := shD_len ok h0
      obtain ⟨hw1, hw2⟩ := wN_ok ok h0
      obtain ⟨hs1, hs2⟩ := wN_sum ok (by omega) h0
      have hys : (ys.length : Int) = (nd.emb.length : Nat) := by omega
      clear s1 s2 s02 f3 hD hh1 hh2
      walk_at "go"
      refine w_isi (tn := "tuple") (b := true) (tyx_tup hS2) (by decide +kernel) ?_
      walk_at "go"
      rw [decide_eq_true hys]
      walk_at "go"
      refine ⟨by show 2 ≤ sizeLine; decide, fun t4 ht4 => ?_⟩
      have s4 := Same.new (o := .tup [.int 0, .int 1]) ht4
      walk_at "go"
      refine l_range (fun i σ H' => ∃ (vw : V) (y11 : Option V), σ = [some (.ref p), some v, some (.ref kd), some (.int (nd.emb.length : Nat)), some (.ref pp), some (.ref tp), some (.bl bl), some (.ref D), some (.ref a2), some (.ref a3), some vw, y11] ∧ Same H3 H' ∧ RFrac K H' vw (sumI (shD nd pr) i))
        (by omega) (by omega) ⟨_, none, rfl, s4, t4, rfl, Sq.tup upd_same⟩ ?_ ?_
      · rintro i σ H4 hi ⟨vw, y11, rfl, s4, r4⟩
        have hdl : (shD nd pr)[i]? = some ((shD nd pr).getD i 0) := by
          rw [List.getD_eq_getElem?_getD, List.getElem?_eq_getElem (by omega)]
          rfl
        obtain ⟨yy, hyy, ry⟩ := RSeq.get hyl hyr hdl
        obtain ⟨zz, hzz, rz⟩ := RSeq.get hzl hzr hdl
        have bq := shD_RB ok (by omega) h0 _ (List.mem_of_getElem? hdl)
        have bs := sumI_RB ok (by omega) h0 (i := i) (by omega)
        have esum : sumI (shD nd pr) (i + 1) = sumI (shD nd pr) i + (shD nd pr).getD i 0 := rfl
        generalize (shD nd pr).getD i 0 = q at ry rz bq esum
        walk_at "go"
        refine w_ix (s4.sq hS2) (atI_nat hyy) ?_
        walk_at "go"
        refine w_ix (s4.sq hS3) (atI_nat hzz) ?_
        walk_at "go"
        refine ⟨_, _, q, rfl, RShare.mono _ _ _ _ s4 ry, RFrac.mono _ _ _ _ s4 rz, fun H5 s5 => ?_⟩
        have s35 := s4.trans s5
        obtain ⟨ps, ds, rfl, hps⟩ := RShare.mono _ _ _ _ s35 ry
        unfold qF at hps
        walk_at "go"
        refine w_ix (s35.sq hS2) (atI_nat hyy) ?_
        walk_at "go"
        refine w_ix (s35.sq hS2) (atI_nat hyy) ?_
        walk_at "go"
        refine ⟨by show 2 ≤ sizeLine; decide, fun t6 ht6 => ?_⟩
        have s6 := Same.new (o := .tup [.int q.num, .int (q.den : Int)]) ht6
        walk_at "go"
        refine ⟨_, _, _, q, rfl, RFrac.mono _ _ _ _ (s5.trans s6) r4, ⟨t6, rfl, Sq.tup upd_same⟩, bs.mono (by omega), bq.mono (by omega), fun v7 H7 s7 r7 => ?_⟩
        rw [← esum] at r7
        walk_at "go"
        exact ⟨_, _, rfl, (s35.trans s6).trans s7, r7⟩
      · rintro σ H4 ⟨vw, y11, rfl, s4, r4⟩
        have e1 : sumI (shD nd pr) ((nd.emb.length : Nat) : Int).toNat = 1 := by
          rw [Int.toNat_natCast, ← ho, ← hw1]
          exact shD_one (by omega)
        rw [e1] at r4
        obtain ⟨aw, rfl, hw⟩ := r4
        have f04 := f03.trans (Fr.same (t := kd) s4)
        have hK4 := hK3.same s4
        walk_at "go"
        refine ⟨by show 2 ≤ sizeLine; decide, fun t5 ht5 => ?_⟩
        have s5 := Same.new (o := .tup [.int 1, .int 1]) ht5
        walk_at "go"
        refine w_neSame Dat.vec (by omega) (d := [1, 1]) ⟨aw, rfl, s5.sq hw⟩ ⟨t5, rfl, Sq.tup upd_same⟩ ?_
        have f05 := f04.trans (Fr.same (t := kd) s5)
        have hK5 := hK4.same s5
        have s35 := s4.trans s5
        generalize upd H4 t5 (.tup [.int 1, .int 1]) = H5 at s5 f05 hK5 s35 ⊢
        clear s4 hw hK4 f04 hyr hzr hS2 hS3 f03
        walk_at "go"
        refine w_ix (s35.sq hD3) (atI_nat (j := 0) rfl) ?_
        walk_at "go"
        refine w_ix (s35.sq hD3) (atI_nat (j := 1) rfl) ?_
        walk_at "go"
        refine ⟨p, nd, e, _, _, wd, pr, tx, rfl, hN.fr f05 hkd0, ok, ho, hL0, ⟨b, h1, rfl, s35.sq hh13⟩, ⟨b, h2, rfl, s35.sq hh23⟩, hpr, htx, h0, by omega, by omega, fun v6 H6 s6 r6 => ?_⟩
        have f06 := f05.trans (Fr.same (t := kd) s6)
        have hK6 := hK5.same s6
        have s36 := s35.trans s6
        walk_at "go"
        refine ⟨v, kd, pp, tp, nd, false, false, wd, _, pr, tx, rfl, Fr.rep RNet.mono RNet.tup f06 hnt hT, ok, ho, hL0, hK6, by omega, f06.sqD hkd0 (Sq.tup hpp), f06.sqD hkd0 (Sq.tup htp), hpr, htx, h0, by omega, by omega, fun v7 H7 f7 hK7 r7 => ?_⟩
        obtain ⟨kvs6, hkd6, _, _⟩ := id hK6
        have r67 := r6.fr f7 hkd6
        have hD7 := f7.sqD hkd6 (s36.sq hD3)
        have hh17 := f7.sqD hkd6 (s36.sq hh13)
        have hh27 := f7.sqD hkd6 (s36.sq hh23)
        have f07 := f06.trans f7
        clear hK6 hK5 s36 s35 f06 f05 hD3 hh13 hh23
        walk_at "go"
        refine ⟨_, _, _, rfl, r67, r7, fun H8 s8 => ?_⟩
        have f08 := f07.trans (Fr.same (t := kd) s8)
        walk_at "go"
        refine w_ix (s8.sq hD7) (atI_nat (j := 0) rfl) ?_
        walk_at "go"
        refine ⟨Nat.zero_le _, fun t9 ht9 => ?_⟩
        have s9 := Same.new (o := .tup []) ht9
        have s79 := s8.trans s9
        have f09 := f08.trans (Fr.same (t := kd) s9)
        walk_at "go"
        refine ⟨p, nd, e, _, _, wd, pr, [], rfl, hN.fr f09 hkd0, ok, ho, hL0, ⟨b, h1, rfl, s79.sq hh17⟩, ⟨false, t9, rfl, Sq.tup upd_same⟩, hpr, List.forall_mem_nil _, h0, by omega, Nat.zero_le _, fun v10 H10 s10 r10 => ?_⟩
        walk_at "go"
        refine ⟨by show 2 ≤ sizeLine; decide, fun t11 ht11 => ?_⟩
        have s11 := Same.new (o := .tup [.int 1, .int 1]) ht11
        walk_at "go"
        refine ⟨_, _, 1, rfl, RShare.mono _ _ _ _ s11 r10, ⟨t11, rfl, Sq.tup upd_same⟩, fun H12 s12 => ?_⟩
        have s712 := ((s79.trans s10).trans s11).trans s12
        have f012 := f07.trans (Fr.same (t := kd) s712)
        have hK12 := hK7.same s712
        walk_at "go"
        refine w_ix (s712.sq hD7) (atI_nat (j := 0) rfl) ?_
        walk_at "go"
        refine w_listS (s712.sq hh17) fun l1 hl1 => ?_
        have s13 := Same.new (o := .lst ((natI pr).map V.int)) hl1
        walk_at "go"
        refine w_listS (b := false) (s13.sq (f012.sqD hkd0 (Sq.tup hpp))) fun l2 hl2 => ?_
        have s14 := Same.new (o := .lst ((natI pr).map V.int)) hl2
        have s1214 := s13.trans s14
        walk_at "go"
        refine w_eqIntsL (Sq.lst (s14 _ _ upd_same)) (Sq.lst upd_same) ?_
        generalize upd (upd H12 l1 (.lst ((natI pr).map V.int))) l2 (.lst ((natI pr).map V.int)) = H14 at s1214 ⊢
        walk_at "go"
        have s714 := s712.trans s1214
        have f014 := f07.trans (Fr.same (t := kd) s714)
        have hK14 := hK7.same s714
        refine w_ix (s714.sq hD7) (atI_nat (j := 1) rfl) ?_
        walk_at "go"
        refine w_listS (s714.sq hh27) fun l3 hl3 => ?_
        have s15 := Same.new (o := .lst ((natI tx).map V.int)) hl3
        walk_at "go"
        refine w_listS (b := false) (s15.sq (f014.sqD hkd0 (Sq.tup htp))) fun l4 hl4 => ?_
        have s16 := Same.new (o := .lst ((natI tx).map V.int)) hl4
        have s1416 := s15.trans s16
        walk_at "go"
        refine w_eqIntsL (Sq.lst (s16 _ _ upd_same)) (Sq.lst upd_same) ?_
        walk_at "go"
        exact k _ (f014.trans (Fr.same (t := kd) s1416)) ((hK14.same s1416).le (by omega))

/-! ### the law -/
theorem natI_dropV (ls : List Nat) (n : Nat) : (natI (ls.drop n)).map V.int = ((natI ls).map V.int).drop n := by
  unfold natI
  rw [List.map_drop, List.map_drop]
theorem none_back {H H' : Hp} {p : Addr} (s : Same H H') (h : H' p = none) : H p = none := by
  cases e : H p with
  | none => rfl
  | some u => rw [s _ _ e] at h; cases h
def sp_law (K : PySem.W.Frag) : Sp := fun vs H Q _ => ∃ (a : Addr) (ns : List Int), vs = [.ref a] ∧ SqL K H a (ns.map V.int) ∧ ns.length ≤ 63 ∧ ∀ H', Q (.bl true) H'
theorem ok_law (T : Txt K mg) : FnOk P w K mg base CX0 10 T.a_law T.d_law ["_law_script"] (sp_law K) := by
  refine T.F_law.ok sc_law (fun vs H Q E h => ?_) (fun cdv A outer s H vs Q E hr h => ?_)
  · obtain ⟨_, _, rfl, _⟩ := h
    rfl
  · obtain ⟨a, sc, rfl, hS0, hlen, k⟩ := h
    have hS : Sq true K H a (sc.map V.int) := hS0
    refine ⟨_, (pss_cons (ps_for PassesOwn.never rfl (pi_range1 rfl T.z_range (pa_cons (pe_callB (cr_min2 rfl) (by rfl) T.z_min (by decide +kernel) (pa_cons (pe_callB (k_lenS (K := K) rfl) (by rfl) T.z_len (by decide +kernel) (pa_cons (pv 0) pa_nil)) (pa_cons pe_int pa_nil))) pa_nil)) (pg_name (i := 1) sc_law.nd rfl (Or.inl rfl))
      (pss_cons (ps_set (i := 2) sc_law.nd rfl (Or.inr rfl) (pe_call (ok_L_numbers T) (hr.mono (by decide)) (by rfl) T.g_L_numbers T.F_L_numbers.kp T.b_L_numbers .nil pass0 (pa_cons (pe_ix (k_ix (K := K) rfl) (pv 0) (pv 1) (fun _ _ => rfl)) (pa_cons (pv 1) (pa_cons pe_int pa_nil)))))
      (pss_cons (ps_set (i := 3) sc_law.nd rfl (Or.inl rfl) (pe_lst (pa_cons pe_int (pa_cons pe_int (pa_cons pe_int (pa_cons pe_int (pa_cons pe_int (pa_cons pe_int (pa_cons pe_int (pa_cons pe_int (pa_cons pe_int (pa_cons pe_int (pa_cons pe_int (pa_cons pe_int (pa_cons pe_int (pa_cons pe_int (pa_cons pe_int (pa_cons pe_int (pa_cons pe_int (pa_cons pe_int (pa_cons pe_int (pa_cons pe_int (pa_cons pe_int (pa_cons pe_int (pa_cons pe_int (pa_cons pe_int (pa_cons pe_int pa_nil)))))))))))))))))))))))))))
      (pss_cons (ps_set (i := 4) sc_law.nd rfl (Or.inl rfl) (pe_ix (k_ix (K := K) rfl) (pv 3) (pe_op op_mod (pe_callTy cr_int1 (by rfl) T.z_int (by decide +kernel) (pa_cons (pe_ix (k_ix (K := K) rfl) (pv 2) pe_int (fun _ _ => rfl)) pa_nil)) pe_int) (fun _ _ => rfl)))
      (pss_cons (ps_set (i := 5) sc_law.nd rfl (Or.inr rfl) (pe_ix (k_ix (K := K) rfl) (pe_lst (pa_cons pe_int (pa_cons pe_int (pa_cons pe_int (pa_cons pe_int (pa_cons pe_int (pa_cons pe_int (pa_cons pe_int (pa_cons (pe_op (k_addG (K := K) rfl) pe_int (pe_op op_mod (pe_callTy cr_int1 (by rfl) T.z_int (by decide +kernel) (pa_cons (pe_ix (k_ix (K := K) rfl) (pv 2) pe_int (fun _ _ => rfl)) pa_nil)) pe_int)) pa_nil))))))))) (pe_op op_mod (pe_callTy cr_int1 (by rfl) T.z_int (by decide +kernel) (pa_cons (pe_op op_fdiv (pe_ix (k_ix (K := K) rfl) (pv 2) pe_int (fun _ _ => rfl)) pe_int) pa_nil)) pe_int) (fun _ _ => rfl)))
      (pss_cons (ps_set (i := 6) sc_law.nd rfl (Or.inl rfl) (pe_call (ok_L_net T) (hr.mono (by decide)) (by rfl) T.g_L_net T.F_L_net.kp T.b_L_net .nil pass0 (pa_cons (pe_slice (k_slG (K := K) rfl) (pv 2) (po_some pe_int) (po_some pe_int)) (pa_cons (pv 5) (pa_cons (pe_op (k_addG (K := K) rfl) pe_int (pe_op op_mod (pe_callTy cr_int1 (by rfl) T.z_int (by decide +kernel) (pa_cons (pe_ix (k_ix (K := K) rfl) (pv 2) pe_int (fun _ _ => rfl)) pa_nil)) pe_int)) (pa_cons (pe_op op_mod (pe_callTy cr_int1 (by rfl) T.z_int (by decide +kernel) (pa_cons (pe_ix (k_ix (K := K) rfl) (pv 2) pe_int (fun _ _ => rfl)) pa_nil)) pe_int) (pa_cons (pv 4) pa_nil)))))))
      (pss_cons (ps_set (i := 7) sc_law.nd rfl (Or.inl rfl) (pe_make T.M_Net (ok_Net___init__ T) (hr.mono (by decide)) rfl T.gc_Net T.b_Net___init__ .nil pass0 (pa_cons (pv 4) (pa_cons (pe_ix (k_ix (K := K) rfl) (pv 6) pe_int (fun _ _ => rfl)) (pa_cons (pe_ix (k_ix (K := K) rfl) (pv 6) pe_int (fun _ _ => rfl)) (pa_cons (pe_ix (k_ix (K := K) rfl) (pv 6) pe_int (fun _ _ => rfl)) (pa_cons (pe_ix (k_ix (K := K) rfl) (pv 6) pe_int (fun _ _ => rfl)) (pa_cons (pe_ix (k_ix (K := K) rfl) (pe_lst (pa_cons pe_non (pa_cons (pe_op op_mod (pe_callTy cr_int1 (by rfl) T.z_int (by decide +kernel) (pa_cons (pe_ix (k_ix (K := K) rfl) (pv 2) pe_int (fun _ _ => rfl)) pa_nil)) (pv 5)) pa_nil))) (pe_op op_mod (pe_callTy cr_int1 (by rfl) T.z_int (by decide +kernel) (pa_cons (pe_ix (k_ix (K := K) rfl) (pv 2) pe_int (fun _ _ => rfl)) pa_nil)) pe_int) (fun _ _ => rfl)) pa_nil))))))))
      (pss_cons (ps_set (i := 8) sc_law.nd rfl (Or.inl rfl) pe_dnewT)
      (pss_cons (ps_set (i := 9) sc_law.nd rfl (Or.inl rfl) (pe_callTy (k_tupS (K := K) rfl) (by rfl) T.z_tuple (by decide +kernel) (pa_cons (pe_lc (own := [("_law_k", 14)]) (g := gName 14) (tt := tYes) rfl sc_law.nd (pi_range1 rfl T.z_range (pa_cons (pe_op (k_addG (K := K) rfl) pe_int (pe_op op_mod (pe_callTy cr_int1 (by rfl) T.z_int (by decide +kernel) (pa_cons (pe_ix (k_ix (K := K) rfl) (pv 2) pe_int (fun _ _ => rfl)) pa_nil)) pe_int)) pa_nil)) (blkOk_by (own := [("_law_k", 14)]) (by kernel_rfl)) (fun _ _ _ _ _ => (pg_name (i := 14) sc_law.nd rfl (by first | exact Or.inl rfl | exact Or.inr rfl))) (fun _ _ _ _ _ => pts_nil) (fun _ _ _ _ _ => (pe_op op_mod (pe_callTy cr_int1 (by rfl) T.z_int (by decide +kernel) (pa_cons (pe_ix (k_ix (K := K) rfl) (pv 2) (pe_op (k_addG (K := K) rfl) pe_int (pv 14)) (fun _ _ => rfl)) pa_nil)) (pv 5)))) pa_nil)))
      (pss_cons (ps_set (i := 10) sc_law.nd rfl (Or.inl rfl) (pe_callTy (k_tupS (K := K) rfl) (by rfl) T.z_tuple (by decide +kernel) (pa_cons (pe_lc (own := [("_law_k", 14)]) (g := gName 14) (tt := tYes) rfl sc_law.nd (pi_range1 rfl T.z_range (pa_cons (pe_op op_mod (pe_callTy cr_int1 (by rfl) T.z_int (by decide +kernel) (pa_cons (pe_ix (k_ix (K := K) rfl) (pv 2) pe_int (fun _ _ => rfl)) pa_nil)) pe_int) pa_nil)) (blkOk_by (own := [("_law_k", 14)]) (by kernel_rfl)) (fun _ _ _ _ _ => (pg_name (i := 14) sc_law.nd rfl (by first | exact Or.inl rfl | exact Or.inr rfl))) (fun _ _ _ _ _ => pts_nil) (fun _ _ _ _ _ => (pe_op op_mod (pe_callTy cr_int1 (by rfl) T.z_int (by decide +kernel) (pa_cons (pe_ix (k_ix (K := K) rfl) (pv 2) (pe_op (k_addG (K := K) rfl) pe_int (pv 14)) (fun _ _ => rfl)) pa_nil)) (pv 5)))) pa_nil)))
      (pss_cons (ps_set (i := 11) sc_law.nd rfl (Or.inl rfl) (pe_op op_catA (pe_tup (pa_cons (pe_op op_mod (pe_callTy cr_int1 (by rfl) T.z_int (by decide +kernel) (pa_cons (pe_ix (k_ix (K := K) rfl) (pv 2) pe_int (fun _ _ => rfl)) pa_nil)) (pv 5)) pa_nil)) (pe_slice (k_slG (K := K) rfl) (pv 9) (po_some pe_int) po_none)))
      (pss_cons (ps_set (i := 12) sc_law.nd rfl (Or.inl rfl) (pe_op op_catA (pe_slice (k_slG (K := K) rfl) (pv 9) po_none (po_some (pe_un un_neg pe_int))) (pe_tup (pa_cons (pe_op op_mod (pe_callTy cr_int1 (by rfl) T.z_int (by decide +kernel) (pa_cons (pe_ix (k_ix (K := K) rfl) (pv 2) pe_int (fun _ _ => rfl)) pa_nil)) (pv 5)) pa_nil))))
      (pss_one (ps_for PassesOwn.never rfl (k_seqS (K := K) rfl (pe_lst (pa_cons (pv 9) (pa_cons (pv 12) (pa_cons (pv 11) (pa_cons (pv 9) pa_nil)))))) (pg_name (i := 13) sc_law.nd rfl (Or.inl rfl))
      (pss_cons (ps_if (pt_not (k_tru (K := K) rfl (pe_call (ok_L_asked T) (hr.mono (by decide)) (by rfl) T.g_L_asked T.F_L_asked.kp T.b_L_asked .nil pass0 (pa_cons (pv 7) (pa_cons (pv 6) (pa_cons (pv 8) (pa_cons (pv 5) (pa_cons (pv 13) (pa_cons (pv 10) (pa_cons (pe_cmpR (k_eqG (K := K) rfl hr.units) (pe_op op_mod (pe_callTy cr_int1 (by rfl) T.z_int (by decide +kernel) (pa_cons (pe_op op_fdiv (pe_ix (k_ix (K := K) rfl) (pv 2) pe_int (fun _ _ => rfl)) pe_int) pa_nil)) pe_int) pe_int (nomark _)) pa_nil)))))))) (by intro _; rfl))) (pss_one (ps_ret pe_bl)) pss_nil)
      (pss_one (ps_if (PW.pt (pw_and (pt_cmpR op_gt (pe_callB (k_lenS (K := K) rfl) (by rfl) T.z_len (by decide +kernel) (pa_cons (pv 10) pa_nil)) pe_int (nomark _)) (pw_and1 (pt_not (k_tru (K := K) rfl (pe_call (ok_L_asked T) (hr.mono (by decide)) (by rfl) T.g_L_asked T.F_L_asked.kp T.b_L_asked .nil pass0 (pa_cons (pv 7) (pa_cons (pv 6) (pa_cons (pv 8) (pa_cons (pv 5) (pa_cons (pv 13) (pa_cons (pe_slice (k_slG (K := K) rfl) (pv 10) po_none (po_some pe_int)) (pa_cons (pe_cmpR (k_eqG (K := K) rfl hr.units) (pe_op op_mod (pe_callTy cr_int1 (by rfl) T.z_int (by decide +kernel) (pa_cons (pe_ix (k_ix (K := K) rfl) (pv 2) pe_int (fun _ _ => rfl)) pa_nil)) pe_int) pe_int (nomark _)) pa_nil)))))))) (by intro _; rfl)))))) (pss_one (ps_ret pe_bl)) pss_nil)))))))))))))))))
      (pss_one (ps_ret pe_bl))), ?_⟩
    refine go_start (σ' := [some (.ref a), none, none, none, none, none, none, none, none, none, none, none, none, none, none]) rfl ?_
    try dsimp only [cxOf, Cx.nox, Cx.wish]
    walk_at "go"
    have hm : (if (3 : Int) < (sc.length : Int) then 3 else (sc.length : Int)) ≤ sc.length ∧ (if (3 : Int) < (sc.length : Int) then 3 else (sc.length : Int)) ≤ 3 ∧ (0 : Int) ≤ (if (3 : Int) < (sc.length : Int) then 3 else (sc.length : Int)) := by split <;> omega
    refine l_range (fun i σ H' => ∃ (y1 y2 y3 y4 y5 y6 y7 y8 y9 y10 y11 y12 y13 y14 : Option V), σ = [some (.ref a), y1, y2, y3, y4, y5, y6, y7, y8, y9, y10, y11, y12, y13, y14] ∧ Same H H')
      (by omega) (by omega) ⟨none, none, none, none, none, none, none, none, none, none, none, none, none, none, rfl, Same.refl _⟩ ?_ ?_
    · rintro i σ H' hi ⟨y1, y2, y3, y4, y5, y6, y7, y8, y9, y10, y11, y12, y13, y14, rfl, sm⟩
      walk_at "go"
      refine ⟨_, _, _, rfl, by omega, by omega, fun ns p H1 hnl hnb s1 hp hL => ?_⟩
      have nn : ∀ i : Int, 0 ≤ i → i < 220 → 0 ≤ nth ns i ∧ nth ns i < 1000 := fun i h0 h1 => hnb _ (nth_mem h0 (by omega))
      have m0 := nn 0 (by omega) (by omega)
      have m1 := nn 1 (by omega) (by omega)
      have m2 := nn 2 (by omega) (by omega)
      have m3 := nn 3 (by omega) (by omega)
      have m4 := nn 4 (by omega) (by omega)
      have m5 := nn 5 (by omega) (by omega)
      have m6 := nn 6 (by omega) (by omega)
      have m184 := nn 184 (by omega) (by omega)
      have m185 := nn 185 (by omega) (by omega)
      have m210 := nn 210 (by omega) (by omega)
      have m211 := nn 211 (by omega) (by omega)
      walk_at "go"
      refine ⟨(by show 25 ≤ sizeLine; decide), fun pl hpl => ?_⟩
      have s2 := Same.new (o := .lst (primes.map V.int)) hpl
      have e2 : (upd H1 pl (.lst (primes.map V.int))) pl = some (.lst (primes.map V.int)) := upd_same
      generalize eH2 : upd H1 pl _ = H2
      have s2 : Same H1 H2 := by rw [← eH2]; exact s2
      have e2 : H2 pl = some (.lst (primes.map V.int)) := by rw [← eH2]; exact e2
      clear eH2
      have hL2 := s2 _ _ hL
      walk_at "go"
      refine w_ixI (b := true) (ns := primes) (Sq.lst e2) (by omega) (by show _ < (25 : Int); omega) ?_
      have hpm := nth_mem (ns := primes) (i := nth ns 0 % 25) (by omega) (by show _ < (25 : Int); omega)
      generalize nth primes (nth ns 0 % 25) = pr at hpm ⊢
      have hpb := prime_between hpm
      walk_at "go"
      refine ⟨(by show 8 ≤ sizeLine; decide), fun p8 hp8 => ?_⟩
      have s3 := Same.new (o := .lst (([1, 2, 3, 4, 2, 3, 5, 1 + nth ns 1 % 12] : List Int).map V.int)) hp8
      have e3 : (upd H2 p8 (.lst (([1, 2, 3, 4, 2, 3, 5, 1 + nth ns 1 % 12] : List Int).map V.int))) p8 = some (.lst (([1, 2, 3, 4, 2, 3, 5, 1 + nth ns 1 % 12] : List Int).map V.int)) := upd_same
      generalize eH3 : upd H2 p8 _ = H3
      have s3 : Same H2 H3 := by rw [← eH3]; exact s3
      have e3 : H3 p8 = some (.lst (([1, 2, 3, 4, 2, 3, 5, 1 + nth ns 1 % 12] : List Int).map V.int)) := by rw [← eH3]; exact e3
      clear eH3
      have hL3 := s3 _ _ hL2
      walk_at "go"
      have hLm := nth_mem (ns := [1, 2, 3, 4, 2, 3, 5, 1 + nth ns 1 % 12]) (i := nth ns 1 / 100 % 8) (by omega) (by show _ < (8 : Int); omega)
      generalize nth [1, 2, 3, 4, 2, 3, 5, 1 + nth ns 1 % 12] (nth ns 1 / 100 % 8) = Lz at hLm ⊢
      have hLz : 1 ≤ Lz ∧ Lz ≤ 12 := by
        simp only [List.mem_cons, List.not_mem_nil, or_false] at hLm
        omega
      obtain ⟨L, rfl⟩ : ∃ L : Nat, Lz = (L : Int) := ⟨Lz.toNat, by omega⟩
      have hL0 : 1 ≤ L ∧ L ≤ 12 := by omega
      clear hLz hLm e3 e2
      have hmodL : ∀ z : Int, 0 ≤ z % (L : Int) ∧ z % (L : Int) < L := fun z => ⟨Int.emod_nonneg _ (by omega), Int.emod_lt_of_pos _ (by omega)⟩
      -- the net
      refine w_slC (Sq.lst hL3) (cutV_ints (by omega) (by omega) (by omega)) fun q3 hq3 => ?_
      walk_at "go"
      refine ⟨q3, _, true, _, _, _, _, rfl, Sq.lst upd_same, by rw [List.length_take, List.length_drop]; omega, by rw [List.length_take, List.length_drop]; omega, by omega, by omega, by omega, by omega, by omega, by omega, hpb.1, hpb.2, fun vN' H5 nd s5 rN ok hp4 he4 ho4 hm4 => ?_⟩
      subst hp4
      have s25 := ((s2.trans s3).trans (Same.new hq3)).trans s5
      have hL5 := ((Same.new hq3).trans s5) _ _ hL3
      have heL : nd.emb.length = L := by omega
      clear s5 s2 s3 hL2 hL3
      walk_at "go"
      obtain ⟨an, v1, v2, v3, v4, rfl, hn1, r1, r2, r3, r4⟩ := id rN
      refine w_ix hn1 (atI_nat (j := 1) rfl) ?_
      walk_at "go"
      refine w_ix hn1 (atI_nat (j := 2) rfl) ?_
      walk_at "go"
      refine w_ix hn1 (atI_nat (j := 3) rfl) ?_
      walk_at "go"
      refine w_ix hn1 (atI_nat (j := 4) rfl) ?_
      walk_at "go"
      -- the end
      refine ⟨by show 2 ≤ sizeLine; decide, fun p6 hp6 => ?_⟩
      have s6 := Same.new (o := .lst [.non, .int (nth ns 184 % (L : Int))]) hp6
      have e6 : (upd H5 p6 (.lst [.non, .int (nth ns 184 % (L : Int))])) p6 = some (.lst [.non, .int (nth ns 184 % (L : Int))]) := upd_same
      generalize upd H5 p6 (.lst [.non, .int (nth ns 184 % (L : Int))]) = H6 at s6 e6 ⊢
      have hL6 := s6 _ _ hL5
      have rN6 := RNet.mono _ _ _ _ s6 rN
      have r1 := RMat.mono _ _ _ _ s6 r1
      have r2 := RVec.mono _ _ _ _ s6 r2
      have r3 := RSeq.mono (RSeq.mono RMat.mono) _ _ _ _ s6 r3
      have r4 := RMat.mono _ _ _ _ s6 r4
      walk_at "go"
      obtain ⟨en, hen⟩ : ∃ en : V, atI [V.non, .int (nth ns 184 % (L : Int))] (nth ns 185 % 2) = some en := by
        have h : nth ns 185 % 2 = 0 ∨ nth ns 185 % 2 = 1 := by omega
        rcases h with h | h <;> rw [h]
        · exact ⟨_, rfl⟩
        · exact ⟨_, rfl⟩
      refine w_ix (Sq.lst e6) hen ?_
      clear e6 hen
      walk_at "go"
      intro q dx hq hdx hne
      refine told_ofE ok hpm hq hdx r1 r2 r3 r4 fun H7 s7 hN => ⟨rfl, ?_⟩
      have hL7 := s7 _ _ hL6
      have rN7 := RNet.mono _ _ _ _ s7 rN6
      have s17 := ((s1.trans s25).trans s6).trans s7
      clear hn1 r1 r2 r3 r4 rN rN6 hL5 hL6 s6 s7 s25 s1
      generalize (1 + nth ns 2 % 3).toNat = wd at ok
      walk_at "go"
      -- what is kept
      refine w_dnew fun kd hkd => ?_
      have hkH : H kd = none := none_back (sm.trans s17) hkd
      have hkH' : H' kd = none := none_back s17 hkd
      have s7n := Same.new (o := .dT []) hkd
      have hK : KD K nd (upd H7 kd (.dT [])) kd 0 := ⟨[], upd_same, Nat.le_refl _, fun pre l v h => by cases h⟩
      generalize upd H7 kd (.dT []) = H7n at s7n hK ⊢
      have hL7 := s7n _ _ hL7
      have rN7 := RNet.mono _ _ _ _ s7n rN7
      have hN := hN.mono s7n
      have s17 := s17.trans s7n
      walk_at "go"
      -- the prompt and the text
      refine c_intsR (by omega) (by omega) (natI (letP ns L 190 (1 + nth ns 4 % 6).toNat)) (by rw [natI_len, letP_len]) (fun _ => rfl) (fun j H8 M hj s8 hM => ?_) (fun D8 H8 hD8 s8 e8 => ?_)
      · have hL8 := s8 _ _ hL7
        walk_at "go"
        rw [← letP_nth (n := (1 + nth ns 4 % 6).toNat) (by omega) (by omega)]
        exact hM _ (Same.refl _)
      have hpl' := letP_len ns L 190 (1 + nth ns 4 % 6).toNat
      have hpx := letP_lt (ns := ns) (L := L) (o := 190) (n := (1 + nth ns 4 % 6).toNat) (by omega)
      generalize letP ns L 190 (1 + nth ns 4 % 6).toNat = pr at e8 hpl' hpx
      have hL8 := s8 _ _ hL7
      walk_at "go"
      refine w_tupL (Sq.lst e8) fun pp hpp => ?_
      have s9 := Same.new (o := .tup ((natI pr).map V.int)) hpp
      have e9 : (upd H8 pp (.tup ((natI pr).map V.int))) pp = some (.tup ((natI pr).map V.int)) := upd_same
      generalize upd H8 pp (.tup ((natI pr).map V.int)) = H9 at s9 e9 ⊢
      have hL9 := s9 _ _ hL8
      walk_at "go"
      refine c_intsR (by omega) (by omega) (natI (letP ns L 200 (nth ns 5 % 7).toNat)) (by rw [natI_len, letP_len]) (fun _ => rfl) (fun j H8 M hj s8 hM => ?_) (fun D10 H10 hD10 s10 e10 => ?_)
      · have hL8 := s8 _ _ hL9
        walk_at "go"
        rw [← letP_nth (n := (nth ns 5 % 7).toNat) (by omega) (by omega)]
        exact hM _ (Same.refl _)
      have htl' := letP_len ns L 200 (nth ns 5 % 7).toNat
      have htx := letP_lt (ns := ns) (L := L) (o := 200) (n := (nth ns 5 % 7).toNat) (by omega)
      generalize letP ns L 200 (nth ns 5 % 7).toNat = tx at e10 htl' htx
      have hL10 := s10 _ _ hL9
      walk_at "go"
      refine w_tupL (Sq.lst e10) fun tp htp => ?_
      have s11 := Same.new (o := .tup ((natI tx).map V.int)) htp
      have e11 : (upd H10 tp (.tup ((natI tx).map V.int))) tp = some (.tup ((natI tx).map V.int)) := upd_same
      generalize upd H10 tp (.tup ((natI tx).map V.int)) = H11 at s11 e11 ⊢
      have hL11 := s11 _ _ hL10
      have e9 := (s10.trans s11) _ _ e9
      have s711 := ((s8.trans s9).trans s10).trans s11
      clear e8 e10 hL8 hL9 hL10 hL7 s8 s9 s10 s11
      walk_at "go"
      -- another first letter
      refine ⟨by show 1 ≤ sizeLine; decide, fun p12 hp12 => ?_⟩
      have s12 := Same.new (o := .tup [.int (nth ns 210 % (L : Int))]) hp12
      obtain ⟨o1, ho1⟩ : ∃ ol : Nat, nth ns 210 % (L : Int) = (ol : Int) := ⟨(nth ns 210 % (L : Int)).toNat, (Int.toNat_of_nonneg (hmodL _).1).symm⟩
      have ho1L := (hmodL (nth ns 210)).2
      rw [ho1] at s12 ho1L ⊢
      have e12 : (upd H11 p12 (.tup [.int (o1 : Int)])) p12 = some (.tup [.int (o1 : Int)]) := upd_same
      generalize upd H11 p12 (.tup [.int (o1 : Int)]) = H12 at s12 e12 ⊢
      walk_at "go"
      refine w_slTq (b := false) (s12 _ _ e9) (ys := (natI (pr.drop 1)).map V.int) (by rw [show (1 : Int) = ((1 : Nat) : Int) from rfl, cutV_from (by rw [List.length_map, natI_len]; omega), natI_dropV]) fun p13 H13 s13 hp13 => ?_
      refine w_catT (s13 _ _ e12) hp13 (by rw [List.length_map, natI_len, List.length_drop, List.length_singleton]; omega) fun pf H14 s14 hpf => ?_
      rw [show [V.int (o1 : Int)] ++ (natI (pr.drop 1)).map V.int = (natI (o1 :: pr.drop 1)).map V.int from rfl] at hpf
      have hfl : (o1 :: pr.drop 1).length = pr.length := by rw [List.length_cons, List.length_drop]; omega
      have hfx : ∀ l ∈ o1 :: pr.drop 1, l < L := fun l h => by
        rcases List.mem_cons.mp h with h | h
        · omega
        · exact hpx l (List.mem_of_mem_drop h)
      generalize o1 :: pr.drop 1 = prf at hpf hfl hfx
      have s1114 := (s12.trans s13).trans s14
      have e9 := s1114 _ _ e9
      have e11 := s1114 _ _ e11
      have hL14 := s1114 _ _ hL11
      have s714 := s711.trans s1114
      clear e12 s12 s13 s14 hp13 hL11 s711 s1114
      walk_at "go"
      -- another last letter
      refine w_slTq (b := false) e9 (ys := (natI (pr.take (pr.length - 1))).map V.int) (by rw [cutV_neg, List.length_map, natI_len, natI_take]) fun p15 H15 s15 hp15 => ?_
      have hL15 := s15 _ _ hL14
      walk_at "go"
      refine ⟨by show 1 ≤ sizeLine; decide, fun p16 hp16 => ?_⟩
      have s16 := Same.new (o := .tup [.int (nth ns 211 % (L : Int))]) hp16
      obtain ⟨ol, hol⟩ : ∃ ol : Nat, nth ns 211 % (L : Int) = (ol : Int) := ⟨(nth ns 211 % (L : Int)).toNat, (Int.toNat_of_nonneg (hmodL _).1).symm⟩
      have holL := (hmodL (nth ns 211)).2
      rw [hol] at s16 holL ⊢
      refine w_catT (s16 _ _ hp15) (ys := [.int (ol : Nat)]) upd_same (by rw [List.length_map, natI_len, List.length_take]; show min (pr.length - 1) pr.length + 1 ≤ _; omega) fun po H17 s17' hpo => ?_
      rw [natI_snoc] at hpo
      have hool : (pr.take (pr.length - 1) ++ [ol]).length = pr.length := by rw [List.length_append, List.length_take]; show min (pr.length - 1) pr.length + 1 = _; omega
      have hoox : ∀ l ∈ pr.take (pr.length - 1) ++ [ol], l < L := fun l h => by
        rcases List.mem_append.mp h with h | h
        · exact hpx l (List.mem_of_mem_take h)
        · rw [List.mem_singleton.mp h]; omega
      generalize pr.take (pr.length - 1) ++ [ol] = pr2 at hpo hool hoox
      have s1417 := (s15.trans s16).trans s17'
      have e9 := s1417 _ _ e9
      have e11 := s1417 _ _ e11
      have hL17 := s1417 _ _ hL14
      have hpf := s1417 _ _ hpf
      have s717 := s714.trans s1417
      clear s15 s16 s17' hp15 hL14 hL15 s714 s1417
      walk_at "go"
      -- the four prompts
      refine ⟨by show 4 ≤ sizeLine; decide, fun p18 hp18 => ?_⟩
      have s18 := Same.new (o := .lst [.ref pp, .ref po, .ref pf, .ref pp]) hp18
      have e18 : (upd H17 p18 (.lst [.ref pp, .ref po, .ref pf, .ref pp])) p18 = some (.lst [.ref pp, .ref po, .ref pf, .ref pp]) := upd_same
      generalize upd H17 p18 (.lst [.ref pp, .ref po, .ref pf, .ref pp]) = H18 at s18 e18 ⊢
      have e9 := s18 _ _ e9
      have e11 := s18 _ _ e11
      have hpf := s18 _ _ hpf
      have hpo := s18 _ _ hpo
      have hL18 := s18 _ _ hL17
      have s718 := s717.trans s18
      have hK := hK.same s718
      have hN := hN.mono s718
      have rN := RNet.mono _ _ _ _ s718 rN7
      have s118 := s17.trans s718
      clear s18 s717 s718 s17 hL17 rN7 s7n
      subst heL
      have hall : ∀ (j : Nat) y, [V.ref pp, .ref po, .ref pf, .ref pp][j]? = some y → ∃ py ls, y = .ref py ∧ H18 py = some (.tup ((natI ls).map V.int)) ∧ ls.length = pr.length ∧ ∀ l ∈ ls, l < nd.emb.length := fun j y hy => by
        match j, hy with
        | 0, hy => cases hy; exact ⟨_, pr, rfl, e9, rfl, hpx⟩
        | 1, hy => cases hy; exact ⟨_, pr2, rfl, hpo, hool, hoox⟩
        | 2, hy => cases hy; exact ⟨_, prf, rfl, hpf, hfl, hfx⟩
        | 3, hy => cases hy; exact ⟨_, pr, rfl, e9, rfl, hpx⟩
        | j + 4, hy => simp at hy
      have hlt := natI_len tx
      obtain ⟨kvs0, hkd0, _, _⟩ := id hK
      walk_at "go"
      refine l_seq (b := true) [.ref pp, .ref po, .ref pf, .ref pp] (fun j σ H' => ∃ (y13 y14 : Option V), σ = [some (.ref a), some (.int (i : Nat)), some (.ref p), some (.ref pl), some (.int nd.p), some (.int (nd.emb.length : Nat)), some (.ref an), some (.ref q), some (.ref kd), some (.ref pp), some (.ref tp), some (.ref pf), some (.ref po), y13, y14] ∧ Fr kd H18 H' ∧ KD K nd H' kd (300 * j)) (Sq.lst e18) ⟨_, _, rfl, Fr.refl _ _, hK⟩ (fun j σ H' _ ⟨_, _, _, f, _⟩ => f.sqD hkd0 (Sq.lst e18)) ?_ ?_
      · rintro j x σ H19 hj hx ⟨y13, y14, rfl, f19, hK19⟩
        have hj4 : j < 4 := hj
        obtain ⟨px, ls, rfl, hpx', hlx, hlL⟩ := hall j x hx
        have fl : ∀ {b : Addr} {xs : List V} {H' : Hp}, Fr kd H18 H' → H18 b = some (.tup xs) → H' b = some (.tup xs) := fun f h => f _ _ (fun e => by rw [e, hkd0] at h; cases h) h
        have hLs : Sq true K H19 p (ns.map V.int) := f19.sqD hkd0 (Sq.lst hL18)
        have hntk : NTup (H18 kd) := NTup.dT hkd0
        walk_at "go"
        refine ⟨q, kd, px, tp, _, en, nd, wd, 300 * j, ls, tx, _, rfl, hN.fr f19 hkd0, Fr.rep RNet.mono RNet.tup f19 hntk rN, ok, ho4, by omega, hK19, by omega, fl f19 hpx', fl f19 e11, hlL, htx, by omega, by omega, by omega, fun H20 f20 hK20 => ?_⟩
        have f20 := f19.trans f20
        have hLs : Sq true K H20 p (ns.map V.int) := f20.sqD hkd0 (Sq.lst hL18)
        have hTs : Sq false K H20 tp ((natI tx).map V.int) := Sq.tup (fl f20 e11)
        walk_at "go"
        refine w_iteD (fun ht => ?_) (fun ht => ?_)
        · walk_at "go"
          refine w_slTq (b := false) (fl f20 e11) (ys := (natI (tx.take 1)).map V.int) (by rw [cutV_intTo (by omega) (by rw [List.length_map, natI_len]; omega), natI_take]; rfl) fun p21 H21 s21 hp21 => ?_
          have f21 := f20.trans (Fr.same (t := kd) s21)
          have hLs : Sq true K H21 p (ns.map V.int) := f21.sqD hkd0 (Sq.lst hL18)
          walk_at "go"
          refine ⟨q, kd, px, p21, _, en, nd, wd, 300 * j + 150, ls, tx.take 1, _, rfl, hN.fr f21 hkd0, Fr.rep RNet.mono RNet.tup f21 hntk rN, ok, ho4, by omega, hK20.same s21, by omega, fl f21 hpx', hp21, hlL, fun l h => htx l (List.mem_of_mem_take h), by omega, by omega, by rw [List.length_take]; omega, fun H22 f22 hK22 => ?_⟩
          walk_at "go"
          exact ⟨_, _, rfl, f21.trans f22, hK22.le (by omega)⟩
        · walk_at "go"
          exact ⟨_, _, rfl, f20, hK20.le (by omega)⟩
      · rintro σ H19 ⟨y13, y14, rfl, f19, hK19⟩
        walk_at "go"
        exact ⟨_, _, _, _, _, _, _, _, _, _, _, _, _, _, rfl, sm.trans (Same.fr s118 hkH' f19)⟩
    · rintro σ H' ⟨y1, y2, y3, y4, y5, y6, y7, y8, y9, y10, y11, y12, y13, y14, rfl, sm⟩
      walk_at "go"
      exact k _

end
theorem all_mk {l : PySem.W.OpenLaw} {w : World} {K : PySem.W.Frag} {h : Heap} {mg : Str → Option Value} {fa CNet CShare KPRIMES fu_wall frows_of fweights_behind fgreatest_divisor fShare___init__ fShare___mul__ fnext_shares ftext_share fis_between fvector_of fmatrix_of fproduct_sum fNet___init__ fNet_is_letter fNet_rest fNet_times fNet_plus fNet_looked_at fNet_row fL_numbers fL_same fL_vector fL_net fL_dot fL_times fL_row fL_common fL_least fL_plus fL_by fL_is_share fL_shares fL_text_share fL_asked flaw : Addr} (X : K.In h) (G : h.Ns mainGlobals mg) (hfa : mg "law" = some (.ref fa))
    {odKPRIMES odu_wall anu_wall odrows_of anrows_of odweights_behind anweights_behind odgreatest_divisor angreatest_divisor odShare___init__ anShare___init__ odShare___mul__ anShare___mul__ odnext_shares annext_shares odtext_share antext_share odis_between anis_between odvector_of anvector_of odmatrix_of anmatrix_of odproduct_sum anproduct_sum odNet___init__ anNet___init__ odNet_is_letter anNet_is_letter odNet_rest anNet_rest odNet_times anNet_times odNet_plus anNet_plus odNet_looked_at anNet_looked_at odNet_row anNet_row odL_numbers anL_numbers odL_same anL_same odL_vector anL_vector odL_net anL_net odL_dot anL_dot odL_times anL_times odL_row anL_row odL_common anL_common odL_least anL_least odL_plus anL_plus odL_by anL_by odL_is_share anL_is_share odL_shares anL_shares odL_text_share anL_text_share odL_asked anL_asked odlaw anlaw : Option Addr} {slKPRIMES slu_wall slrows_of slweights_behind slgreatest_divisor slShare___init__ slShare___mul__ slnext_shares sltext_share slis_between slvector_of slmatrix_of slproduct_sum slNet___init__ slNet_is_letter slNet_rest slNet_times slNet_plus slNet_looked_at slNet_row slL_numbers slL_same slL_vector slL_net slL_dot slL_times slL_row slL_common slL_least slL_plus slL_by slL_is_share slL_shares slL_text_share slL_asked sllaw : Array (Option Value)} {ocu_wall kVu_wall dcu_wall pmu_wall cdu_wall ctu_wall ocrows_of kVrows_of dcrows_of pmrows_of cdrows_of ctrows_of ocweights_behind kVweights_behind dcweights_behind pmweights_behind cdweights_behind ctweights_behind ocgreatest_divisor kVgreatest_divisor dcgreatest_divisor pmgreatest_divisor cdgreatest_divisor ctgreatest_divisor ocShare___init__ kVShare___init__ dcShare___init__ pmShare___init__ cdShare___init__ ctShare___init__ ocShare___mul__ kVShare___mul__ dcShare___mul__ pmShare___mul__ cdShare___mul__ ctShare___mul__ ocnext_shares kVnext_shares dcnext_shares pmnext_shares cdnext_shares ctnext_shares octext_share kVtext_share dctext_share pmtext_share cdtext_share cttext_share ocis_between kVis_between dcis_between pmis_between cdis_between ctis_between ocvector_of kVvector_of dcvector_of pmvector_of cdvector_of ctvector_of ocmatrix_of kVmatrix_of dcmatrix_of pmmatrix_of cdmatrix_of ctmatrix_of ocproduct_sum kVproduct_sum dcproduct_sum pmproduct_sum cdproduct_sum ctproduct_sum ocNet___init__ kVNet___init__ dcNet___init__ pmNet___init__ cdNet___init__ ctNet___init__ ocNet_is_letter kVNet_is_letter dcNet_is_letter pmNet_is_letter cdNet_is_letter ctNet_is_letter ocNet_rest kVNet_rest dcNet_rest pmNet_rest cdNet_rest ctNet_rest ocNet_times kVNet_times dcNet_times pmNet_times cdNet_times ctNet_times ocNet_plus kVNet_plus dcNet_plus pmNet_plus cdNet_plus ctNet_plus ocNet_looked_at kVNet_looked_at dcNet_looked_at pmNet_looked_at cdNet_looked_at ctNet_looked_at ocNet_row kVNet_row dcNet_row pmNet_row cdNet_row ctNet_row ocL_numbers kVL_numbers dcL_numbers pmL_numbers cdL_numbers ctL_numbers ocL_same kVL_same dcL_same pmL_same cdL_same ctL_same ocL_vector kVL_vector dcL_vector pmL_vector cdL_vector ctL_vector ocL_net kVL_net dcL_net pmL_net cdL_net ctL_net ocL_dot kVL_dot dcL_dot pmL_dot cdL_dot ctL_dot ocL_times kVL_times dcL_times pmL_times cdL_times ctL_times ocL_row kVL_row dcL_row pmL_row cdL_row ctL_row ocL_common kVL_common dcL_common pmL_common cdL_common ctL_common ocL_least kVL_least dcL_least pmL_least cdL_least ctL_least ocL_plus kVL_plus dcL_plus pmL_plus cdL_plus ctL_plus ocL_by kVL_by dcL_by pmL_by cdL_by ctL_by ocL_is_share kVL_is_share dcL_is_share pmL_is_share cdL_is_share ctL_is_share ocL_shares kVL_shares dcL_shares pmL_shares cdL_shares ctL_shares ocL_text_share kVL_text_share dcL_text_share pmL_text_share cdL_text_share ctL_text_share ocL_asked kVL_asked dcL_asked pmL_asked cdL_asked ctL_asked oclaw kVlaw dclaw pmlaw cdlaw ctlaw : Value}
    (aCNet : PySem.W.nsIn K mainGlobals "Net" = some (some (.ref CNet))) (pgNet : PySem.W.plainGet K CNet Str.empty = true) (hdNet : PySem.W.hasDictIn K CNet = true) (poNet : PySem.W.plainOver K CNet = true) (saNet : PySem.W.findIn K (.ref CNet) "__setattr__" = some (some (.builtin "object.__setattr__"))) (mkNet : PySem.W.makesIn K CNet = true) (kcNet : PySem.W.keepIn K (.ref CNet) = true)
    (nNet_prime : PySem.W.findIn K (.ref CNet) "prime" = some none)
    (nNet_embed : PySem.W.findIn K (.ref CNet) "embed" = some none)
    (nNet_shift : PySem.W.findIn K (.ref CNet) "shift" = some none)
    (nNet_layers : PySem.W.findIn K (.ref CNet) "layers" = some none)
    (nNet_out : PySem.W.findIn K (.ref CNet) "out" = some none)
    (nNet_end : PySem.W.findIn K (.ref CNet) "end" = some none)
    (aCShare : PySem.W.nsIn K mainGlobals "Share" = some (some (.ref CShare))) (pgShare : PySem.W.plainGet K CShare Str.empty = true) (hdShare : PySem.W.hasDictIn K CShare = true) (poShare : PySem.W.plainOver K CShare = true) (saShare : PySem.W.findIn K (.ref CShare) "__setattr__" = some (some (.builtin "object.__setattr__"))) (mkShare : PySem.W.makesIn K CShare = true) (kcShare : PySem.W.keepIn K (.ref CShare) = true)
    (nShare_over : PySem.W.findIn K (.ref CShare) "over" = some none)
    (nShare_under : PySem.W.findIn K (.ref CShare) "under" = some none)
    (aKPRIMES : PySem.W.nsIn K mainGlobals "PRIMES" = some (some (.ref KPRIMES))) {itKPRIMES : Array Value} {nKPRIMES : Nat} (lKPRIMES : K.lookup KPRIMES = some ⟨.type "tuple", odKPRIMES, .seq itKPRIMES nKPRIMES, slKPRIMES⟩) (vKPRIMES : itKPRIMES.size ≤ sizeLine ∧ Vals [.int 2, .int 3, .int 5, .int 7, .int 11, .int 13, .int 17, .int 19, .int 23, .int 29, .int 31, .int 37, .int 41, .int 43, .int 47, .int 53, .int 59, .int 61, .int 67, .int 71, .int 73, .int 79, .int 83, .int 89, .int 97] itKPRIMES.toList)
    (au_wall : PySem.W.nsIn K mainGlobals "_wall" = some (some (.ref fu_wall))) (lu_wall : K.lookup fu_wall = some ⟨ocu_wall, odu_wall, .func (PySem.W.fnOf "_wall" "_wall" (defArgs s_u_wall) (defBody s_u_wall) (defScope s_u_wall) .none kVu_wall dcu_wall pmu_wall anu_wall cdu_wall ctu_wall), slu_wall⟩) (cu_wall : PySem.W.codeIn K cdu_wall "_wall" = true) (ku_wall : PySem.W.keepIn K (.ref fu_wall) = true)
    (arows_of : PySem.W.nsIn K mainGlobals "rows_of" = some (some (.ref frows_of))) (lrows_of : K.lookup frows_of = some ⟨ocrows_of, odrows_of, .func (PySem.W.fnOf "rows_of" "rows_of" (defArgs s_rows_of) (defBody s_rows_of) (defScope s_rows_of) .none kVrows_of dcrows_of pmrows_of anrows_of cdrows_of ctrows_of), slrows_of⟩) (crows_of : PySem.W.codeIn K cdrows_of "rows_of" = true) (krows_of : PySem.W.keepIn K (.ref frows_of) = true)
    (aweights_behind : PySem.W.nsIn K mainGlobals "weights_behind" = some (some (.ref fweights_behind))) (lweights_behind : K.lookup fweights_behind = some ⟨ocweights_behind, odweights_behind, .func (PySem.W.fnOf "weights_behind" "weights_behind" (defArgs s_weights_behind) (defBody s_weights_behind) (defScope s_weights_behind) .none kVweights_behind dcweights_behind pmweights_behind anweights_behind cdweights_behind ctweights_behind), slweights_behind⟩) (cweights_behind : PySem.W.codeIn K cdweights_behind "weights_behind" = true) (kweights_behind : PySem.W.keepIn K (.ref fweights_behind) = true)
    (agreatest_divisor : PySem.W.nsIn K mainGlobals "greatest_divisor" = some (some (.ref fgreatest_divisor))) (lgreatest_divisor : K.lookup fgreatest_divisor = some ⟨ocgreatest_divisor, odgreatest_divisor, .func (PySem.W.fnOf "greatest_divisor" "greatest_divisor" (defArgs s_greatest_divisor) (defBody s_greatest_divisor) (defScope s_greatest_divisor) .none kVgreatest_divisor dcgreatest_divisor pmgreatest_divisor angreatest_divisor cdgreatest_divisor ctgreatest_divisor), slgreatest_divisor⟩) (cgreatest_divisor : PySem.W.codeIn K cdgreatest_divisor "greatest_divisor" = true) (kgreatest_divisor : PySem.W.keepIn K (.ref fgreatest_divisor) = true)
    (aShare___init__ : PySem.W.findIn K (.ref CShare) "__init__" = some (some (.ref fShare___init__))) (iShare___init__ : PySem.W.isFn K (.ref fShare___init__) = true) (lShare___init__ : K.lookup fShare___init__ = some ⟨ocShare___init__, odShare___init__, .func (PySem.W.fnOf "__init__" "Share.__init__" (defArgs s_Share___init__) (defBody s_Share___init__) (defScope s_Share___init__) .none kVShare___init__ dcShare___init__ pmShare___init__ anShare___init__ cdShare___init__ ctShare___init__), slShare___init__⟩) (cShare___init__ : PySem.W.codeIn K cdShare___init__ "Share.__init__" = true) (kShare___init__ : PySem.W.keepIn K (.ref fShare___init__) = true)
    (aShare___mul__ : PySem.W.findIn K (.ref CShare) "__mul__" = some (some (.ref fShare___mul__))) (iShare___mul__ : PySem.W.isFn K (.ref fShare___mul__) = true) (lShare___mul__ : K.lookup fShare___mul__ = some ⟨ocShare___mul__, odShare___mul__, .func (PySem.W.fnOf "__mul__" "Share.__mul__" (defArgs s_Share___mul__) (defBody s_Share___mul__) (defScope s_Share___mul__) .none kVShare___mul__ dcShare___mul__ pmShare___mul__ anShare___mul__ cdShare___mul__ ctShare___mul__), slShare___mul__⟩) (cShare___mul__ : PySem.W.codeIn K cdShare___mul__ "Share.__mul__" = true) (kShare___mul__ : PySem.W.keepIn K (.ref fShare___mul__) = true)
    (sfShare : PySem.W.selfFirst K CShare = true)
    (anext_shares : PySem.W.nsIn K mainGlobals "next_shares" = some (some (.ref fnext_shares))) (lnext_shares : K.lookup fnext_shares = some ⟨ocnext_shares, odnext_shares, .func (PySem.W.fnOf "next_shares" "next_shares" (defArgs s_next_shares) (defBody s_next_shares) (defScope s_next_shares) .none kVnext_shares dcnext_shares pmnext_shares annext_shares cdnext_shares ctnext_shares), slnext_shares⟩) (cnext_shares : PySem.W.codeIn K cdnext_shares "next_shares" = true) (knext_shares : PySem.W.keepIn K (.ref fnext_shares) = true)
    (atext_share : PySem.W.nsIn K mainGlobals "text_share" = some (some (.ref ftext_share))) (ltext_share : K.lookup ftext_share = some ⟨octext_share, odtext_share, .func (PySem.W.fnOf "text_share" "text_share" (defArgs s_text_share) (defBody s_text_share) (defScope s_text_share) .none kVtext_share dctext_share pmtext_share antext_share cdtext_share cttext_share), sltext_share⟩) (ctext_share : PySem.W.codeIn K cdtext_share "text_share" = true) (ktext_share : PySem.W.keepIn K (.ref ftext_share) = true)
    (ais_between : PySem.W.nsIn K mainGlobals "is_between" = some (some (.ref fis_between))) (lis_between : K.lookup fis_between = some ⟨ocis_between, odis_between, .func (PySem.W.fnOf "is_between" "is_between" (defArgs s_is_between) (defBody s_is_between) (defScope s_is_between) .none kVis_between dcis_between pmis_between anis_between cdis_between ctis_between), slis_between⟩) (cis_between : PySem.W.codeIn K cdis_between "is_between" = true) (kis_between : PySem.W.keepIn K (.ref fis_between) = true)
    (avector_of : PySem.W.nsIn K mainGlobals "vector_of" = some (some (.ref fvector_of))) (lvector_of : K.lookup fvector_of = some ⟨ocvector_of, odvector_of, .func (PySem.W.fnOf "vector_of" "vector_of" (defArgs s_vector_of) (defBody s_vector_of) (defScope s_vector_of) .none kVvector_of dcvector_of pmvector_of anvector_of cdvector_of ctvector_of), slvector_of⟩) (cvector_of : PySem.W.codeIn K cdvector_of "vector_of" = true) (kvector_of : PySem.W.keepIn K (.ref fvector_of) = true)
    (amatrix_of : PySem.W.nsIn K mainGlobals "matrix_of" = some (some (.ref fmatrix_of))) (lmatrix_of : K.lookup fmatrix_of = some ⟨ocmatrix_of, odmatrix_of, .func (PySem.W.fnOf "matrix_of" "matrix_of" (defArgs s_matrix_of) (defBody s_matrix_of) (defScope s_matrix_of) .none kVmatrix_of dcmatrix_of pmmatrix_of anmatrix_of cdmatrix_of ctmatrix_of), slmatrix_of⟩) (cmatrix_of : PySem.W.codeIn K cdmatrix_of "matrix_of" = true) (kmatrix_of : PySem.W.keepIn K (.ref fmatrix_of) = true)
    (aproduct_sum : PySem.W.nsIn K mainGlobals "product_sum" = some (some (.ref fproduct_sum))) (lproduct_sum : K.lookup fproduct_sum = some ⟨ocproduct_sum, odproduct_sum, .func (PySem.W.fnOf "product_sum" "product_sum" (defArgs s_product_sum) (defBody s_product_sum) (defScope s_product_sum) .none kVproduct_sum dcproduct_sum pmproduct_sum anproduct_sum cdproduct_sum ctproduct_sum), slproduct_sum⟩) (cproduct_sum : PySem.W.codeIn K cdproduct_sum "product_sum" = true) (kproduct_sum : PySem.W.keepIn K (.ref fproduct_sum) = true)
    (aNet___init__ : PySem.W.findIn K (.ref CNet) "__init__" = some (some (.ref fNet___init__))) (iNet___init__ : PySem.W.isFn K (.ref fNet___init__) = true) (lNet___init__ : K.lookup fNet___init__ = some ⟨ocNet___init__, odNet___init__, .func (PySem.W.fnOf "__init__" "Net.__init__" (defArgs s_Net___init__) (defBody s_Net___init__) (defScope s_Net___init__) .none kVNet___init__ dcNet___init__ pmNet___init__ anNet___init__ cdNet___init__ ctNet___init__), slNet___init__⟩) (cNet___init__ : PySem.W.codeIn K cdNet___init__ "Net.__init__" = true) (kNet___init__ : PySem.W.keepIn K (.ref fNet___init__) = true)
    (aNet_is_letter : PySem.W.findIn K (.ref CNet) "is_letter" = some (some (.ref fNet_is_letter))) (iNet_is_letter : PySem.W.isFn K (.ref fNet_is_letter) = true) (lNet_is_letter : K.lookup fNet_is_letter = some ⟨ocNet_is_letter, odNet_is_letter, .func (PySem.W.fnOf "is_letter" "Net.is_letter" (defArgs s_Net_is_letter) (defBody s_Net_is_letter) (defScope s_Net_is_letter) .none kVNet_is_letter dcNet_is_letter pmNet_is_letter anNet_is_letter cdNet_is_letter ctNet_is_letter), slNet_is_letter⟩) (cNet_is_letter : PySem.W.codeIn K cdNet_is_letter "Net.is_letter" = true) (kNet_is_letter : PySem.W.keepIn K (.ref fNet_is_letter) = true)
    (aNet_rest : PySem.W.findIn K (.ref CNet) "rest" = some (some (.ref fNet_rest))) (iNet_rest : PySem.W.isFn K (.ref fNet_rest) = true) (lNet_rest : K.lookup fNet_rest = some ⟨ocNet_rest, odNet_rest, .func (PySem.W.fnOf "rest" "Net.rest" (defArgs s_Net_rest) (defBody s_Net_rest) (defScope s_Net_rest) .none kVNet_rest dcNet_rest pmNet_rest anNet_rest cdNet_rest ctNet_rest), slNet_rest⟩) (cNet_rest : PySem.W.codeIn K cdNet_rest "Net.rest" = true) (kNet_rest : PySem.W.keepIn K (.ref fNet_rest) = true)
    (aNet_times : PySem.W.findIn K (.ref CNet) "times" = some (some (.ref fNet_times))) (iNet_times : PySem.W.isFn K (.ref fNet_times) = true) (lNet_times : K.lookup fNet_times = some ⟨ocNet_times, odNet_times, .func (PySem.W.fnOf "times" "Net.times" (defArgs s_Net_times) (defBody s_Net_times) (defScope s_Net_times) .none kVNet_times dcNet_times pmNet_times anNet_times cdNet_times ctNet_times), slNet_times⟩) (cNet_times : PySem.W.codeIn K cdNet_times "Net.times" = true) (kNet_times : PySem.W.keepIn K (.ref fNet_times) = true)
    (aNet_plus : PySem.W.findIn K (.ref CNet) "plus" = some (some (.ref fNet_plus))) (iNet_plus : PySem.W.isFn K (.ref fNet_plus) = true) (lNet_plus : K.lookup fNet_plus = some ⟨ocNet_plus, odNet_plus, .func (PySem.W.fnOf "plus" "Net.plus" (defArgs s_Net_plus) (defBody s_Net_plus) (defScope s_Net_plus) .none kVNet_plus dcNet_plus pmNet_plus anNet_plus cdNet_plus ctNet_plus), slNet_plus⟩) (cNet_plus : PySem.W.codeIn K cdNet_plus "Net.plus" = true) (kNet_plus : PySem.W.keepIn K (.ref fNet_plus) = true)
    (aNet_looked_at : PySem.W.findIn K (.ref CNet) "looked_at" = some (some (.ref fNet_looked_at))) (iNet_looked_at : PySem.W.isFn K (.ref fNet_looked_at) = true) (lNet_looked_at : K.lookup fNet_looked_at = some ⟨ocNet_looked_at, odNet_looked_at, .func (PySem.W.fnOf "looked_at" "Net.looked_at" (defArgs s_Net_looked_at) (defBody s_Net_looked_at) (defScope s_Net_looked_at) .none kVNet_looked_at dcNet_looked_at pmNet_looked_at anNet_looked_at cdNet_looked_at ctNet_looked_at), slNet_looked_at⟩) (cNet_looked_at : PySem.W.codeIn K cdNet_looked_at "Net.looked_at" = true) (kNet_looked_at : PySem.W.keepIn K (.ref fNet_looked_at) = true)
    (aNet_row : PySem.W.findIn K (.ref CNet) "row" = some (some (.ref fNet_row))) (iNet_row : PySem.W.isFn K (.ref fNet_row) = true) (lNet_row : K.lookup fNet_row = some ⟨ocNet_row, odNet_row, .func (PySem.W.fnOf "row" "Net.row" (defArgs s_Net_row) (defBody s_Net_row) (defScope s_Net_row) .none kVNet_row dcNet_row pmNet_row anNet_row cdNet_row ctNet_row), slNet_row⟩) (cNet_row : PySem.W.codeIn K cdNet_row "Net.row" = true) (kNet_row : PySem.W.keepIn K (.ref fNet_row) = true)
    (aL_numbers : PySem.W.nsIn K mainGlobals "_law_numbers" = some (some (.ref fL_numbers))) (lL_numbers : K.lookup fL_numbers = some ⟨ocL_numbers, odL_numbers, .func (PySem.W.fnOf "_law_numbers" "_law_numbers" (defArgs s_L_numbers) (defBody s_L_numbers) (defScope s_L_numbers) .none kVL_numbers dcL_numbers pmL_numbers anL_numbers cdL_numbers ctL_numbers), slL_numbers⟩) (cL_numbers : PySem.W.codeIn K cdL_numbers "_law_numbers" = true) (kL_numbers : PySem.W.keepIn K (.ref fL_numbers) = true)
    (aL_same : PySem.W.nsIn K mainGlobals "_law_same" = some (some (.ref fL_same))) (lL_same : K.lookup fL_same = some ⟨ocL_same, odL_same, .func (PySem.W.fnOf "_law_same" "_law_same" (defArgs s_L_same) (defBody s_L_same) (defScope s_L_same) .none kVL_same dcL_same pmL_same anL_same cdL_same ctL_same), slL_same⟩) (cL_same : PySem.W.codeIn K cdL_same "_law_same" = true) (kL_same : PySem.W.keepIn K (.ref fL_same) = true)
    (aL_vector : PySem.W.nsIn K mainGlobals "_law_vector" = some (some (.ref fL_vector))) (lL_vector : K.lookup fL_vector = some ⟨ocL_vector, odL_vector, .func (PySem.W.fnOf "_law_vector" "_law_vector" (defArgs s_L_vector) (defBody s_L_vector) (defScope s_L_vector) .none kVL_vector dcL_vector pmL_vector anL_vector cdL_vector ctL_vector), slL_vector⟩) (cL_vector : PySem.W.codeIn K cdL_vector "_law_vector" = true) (kL_vector : PySem.W.keepIn K (.ref fL_vector) = true)
    (aL_net : PySem.W.nsIn K mainGlobals "_law_net" = some (some (.ref fL_net))) (lL_net : K.lookup fL_net = some ⟨ocL_net, odL_net, .func (PySem.W.fnOf "_law_net" "_law_net" (defArgs s_L_net) (defBody s_L_net) (defScope s_L_net) .none kVL_net dcL_net pmL_net anL_net cdL_net ctL_net), slL_net⟩) (cL_net : PySem.W.codeIn K cdL_net "_law_net" = true) (kL_net : PySem.W.keepIn K (.ref fL_net) = true)
    (aL_dot : PySem.W.nsIn K mainGlobals "_law_dot" = some (some (.ref fL_dot))) (lL_dot : K.lookup fL_dot = some ⟨ocL_dot, odL_dot, .func (PySem.W.fnOf "_law_dot" "_law_dot" (defArgs s_L_dot) (defBody s_L_dot) (defScope s_L_dot) .none kVL_dot dcL_dot pmL_dot anL_dot cdL_dot ctL_dot), slL_dot⟩) (cL_dot : PySem.W.codeIn K cdL_dot "_law_dot" = true) (kL_dot : PySem.W.keepIn K (.ref fL_dot) = true)
    (aL_times : PySem.W.nsIn K mainGlobals "_law_times" = some (some (.ref fL_times))) (lL_times : K.lookup fL_times = some ⟨ocL_times, odL_times, .func (PySem.W.fnOf "_law_times" "_law_times" (defArgs s_L_times) (defBody s_L_times) (defScope s_L_times) .none kVL_times dcL_times pmL_times anL_times cdL_times ctL_times), slL_times⟩) (cL_times : PySem.W.codeIn K cdL_times "_law_times" = true) (kL_times : PySem.W.keepIn K (.ref fL_times) = true)
    (aL_row : PySem.W.nsIn K mainGlobals "_law_row" = some (some (.ref fL_row))) (lL_row : K.lookup fL_row = some ⟨ocL_row, odL_row, .func (PySem.W.fnOf "_law_row" "_law_row" (defArgs s_L_row) (defBody s_L_row) (defScope s_L_row) .none kVL_row dcL_row pmL_row anL_row cdL_row ctL_row), slL_row⟩) (cL_row : PySem.W.codeIn K cdL_row "_law_row" = true) (kL_row : PySem.W.keepIn K (.ref fL_row) = true)
    (aL_common : PySem.W.nsIn K mainGlobals "_law_common" = some (some (.ref fL_common))) (lL_common : K.lookup fL_common = some ⟨ocL_common, odL_common, .func (PySem.W.fnOf "_law_common" "_law_common" (defArgs s_L_common) (defBody s_L_common) (defScope s_L_common) .none kVL_common dcL_common pmL_common anL_common cdL_common ctL_common), slL_common⟩) (cL_common : PySem.W.codeIn K cdL_common "_law_common" = true) (kL_common : PySem.W.keepIn K (.ref fL_common) = true)
    (aL_least : PySem.W.nsIn K mainGlobals "_law_least" = some (some (.ref fL_least))) (lL_least : K.lookup fL_least = some ⟨ocL_least, odL_least, .func (PySem.W.fnOf "_law_least" "_law_least" (defArgs s_L_least) (defBody s_L_least) (defScope s_L_least) .none kVL_least dcL_least pmL_least anL_least cdL_least ctL_least), slL_least⟩) (cL_least : PySem.W.codeIn K cdL_least "_law_least" = true) (kL_least : PySem.W.keepIn K (.ref fL_least) = true)
    (aL_plus : PySem.W.nsIn K mainGlobals "_law_plus" = some (some (.ref fL_plus))) (lL_plus : K.lookup fL_plus = some ⟨ocL_plus, odL_plus, .func (PySem.W.fnOf "_law_plus" "_law_plus" (defArgs s_L_plus) (defBody s_L_plus) (defScope s_L_plus) .none kVL_plus dcL_plus pmL_plus anL_plus cdL_plus ctL_plus), slL_plus⟩) (cL_plus : PySem.W.codeIn K cdL_plus "_law_plus" = true) (kL_plus : PySem.W.keepIn K (.ref fL_plus) = true)
    (aL_by : PySem.W.nsIn K mainGlobals "_law_by" = some (some (.ref fL_by))) (lL_by : K.lookup fL_by = some ⟨ocL_by, odL_by, .func (PySem.W.fnOf "_law_by" "_law_by" (defArgs s_L_by) (defBody s_L_by) (defScope s_L_by) .none kVL_by dcL_by pmL_by anL_by cdL_by ctL_by), slL_by⟩) (cL_by : PySem.W.codeIn K cdL_by "_law_by" = true) (kL_by : PySem.W.keepIn K (.ref fL_by) = true)
    (aL_is_share : PySem.W.nsIn K mainGlobals "_law_is_share" = some (some (.ref fL_is_share))) (lL_is_share : K.lookup fL_is_share = some ⟨ocL_is_share, odL_is_share, .func (PySem.W.fnOf "_law_is_share" "_law_is_share" (defArgs s_L_is_share) (defBody s_L_is_share) (defScope s_L_is_share) .none kVL_is_share dcL_is_share pmL_is_share anL_is_share cdL_is_share ctL_is_share), slL_is_share⟩) (cL_is_share : PySem.W.codeIn K cdL_is_share "_law_is_share" = true) (kL_is_share : PySem.W.keepIn K (.ref fL_is_share) = true)
    (aL_shares : PySem.W.nsIn K mainGlobals "_law_shares" = some (some (.ref fL_shares))) (lL_shares : K.lookup fL_shares = some ⟨ocL_shares, odL_shares, .func (PySem.W.fnOf "_law_shares" "_law_shares" (defArgs s_L_shares) (defBody s_L_shares) (defScope s_L_shares) .none kVL_shares dcL_shares pmL_shares anL_shares cdL_shares ctL_shares), slL_shares⟩) (cL_shares : PySem.W.codeIn K cdL_shares "_law_shares" = true) (kL_shares : PySem.W.keepIn K (.ref fL_shares) = true)
    (aL_text_share : PySem.W.nsIn K mainGlobals "_law_text_share" = some (some (.ref fL_text_share))) (lL_text_share : K.lookup fL_text_share = some ⟨ocL_text_share, odL_text_share, .func (PySem.W.fnOf "_law_text_share" "_law_text_share" (defArgs s_L_text_share) (defBody s_L_text_share) (defScope s_L_text_share) .none kVL_text_share dcL_text_share pmL_text_share anL_text_share cdL_text_share ctL_text_share), slL_text_share⟩) (cL_text_share : PySem.W.codeIn K cdL_text_share "_law_text_share" = true) (kL_text_share : PySem.W.keepIn K (.ref fL_text_share) = true)
    (aL_asked : PySem.W.nsIn K mainGlobals "_law_asked" = some (some (.ref fL_asked))) (lL_asked : K.lookup fL_asked = some ⟨ocL_asked, odL_asked, .func (PySem.W.fnOf "_law_asked" "_law_asked" (defArgs s_L_asked) (defBody s_L_asked) (defScope s_L_asked) .none kVL_asked dcL_asked pmL_asked anL_asked cdL_asked ctL_asked), slL_asked⟩) (cL_asked : PySem.W.codeIn K cdL_asked "_law_asked" = true) (kL_asked : PySem.W.keepIn K (.ref fL_asked) = true)
    (alaw : PySem.W.nsIn K mainGlobals "law" = some (some (.ref flaw))) (llaw : K.lookup flaw = some ⟨oclaw, odlaw, .func (PySem.W.fnOf "law" "law" (defArgs s_law) (defBody s_law) (defScope s_law) .none kVlaw dclaw pmlaw anlaw cdlaw ctlaw), sllaw⟩) (claw : PySem.W.codeIn K cdlaw "law" = true) (klaw : PySem.W.keepIn K (.ref flaw) = true)
    (zabs : PySem.W.nsIn K mainGlobals "abs" = some none)
    (zbool : PySem.W.nsIn K mainGlobals "bool" = some none)
    (zenumerate : PySem.W.nsIn K mainGlobals "enumerate" = some none)
    (zint : PySem.W.nsIn K mainGlobals "int" = some none)
    (zisinstance : PySem.W.nsIn K mainGlobals "isinstance" = some none)
    (zlen : PySem.W.nsIn K mainGlobals "len" = some none)
    (zlist : PySem.W.nsIn K mainGlobals "list" = some none)
    (zmin : PySem.W.nsIn K mainGlobals "min" = some none)
    (zrange : PySem.W.nsIn K mainGlobals "range" = some none)
    (zstr : PySem.W.nsIn K mainGlobals "str" = some none)
    (zsum : PySem.W.nsIn K mainGlobals "sum" = some none)
    (ztuple : PySem.W.nsIn K mainGlobals "tuple" = some none)
    (zzip : PySem.W.nsIn K mainGlobals "zip" = some none)
    : ∃ fd : FuncData, (∀ (s : Shared) (v : Value), BindsTo s fd ⟨[v], []⟩ [("_law_script", v)]) ∧ ∀ base : Heap, K.In base → base.Ns mainGlobals mg → FnOk l.prog w K mg base CX0 10 fa fd ["_law_script"] (sp_law K) := by
  have e := hfa.symm.trans (PySem.W.mg_of X G alaw)
  cases e
  have Fu_wall := fun_mk (st := s_u_wall) lu_wall cu_wall ku_wall
  have bu_wall := Fu_wall.binds (ps := ["k"]) fun _ _ _ _ _ _ us hl => match us, hl with | [_], _ => rfl
  have Frows_of := fun_mk (st := s_rows_of) lrows_of crows_of krows_of
  have brows_of := Frows_of.binds (ps := ["net", "letters"]) fun _ _ _ _ _ _ us hl => match us, hl with | [_, _], _ => rfl
  have Fweights_behind := fun_mk (st := s_weights_behind) lweights_behind cweights_behind kweights_behind
  have bweights_behind := Fweights_behind.binds (ps := ["net", "letters"]) fun _ _ _ _ _ _ us hl => match us, hl with | [_, _], _ => rfl
  have Fgreatest_divisor := fun_mk (st := s_greatest_divisor) lgreatest_divisor cgreatest_divisor kgreatest_divisor
  have bgreatest_divisor := Fgreatest_divisor.binds (ps := ["one", "two"]) fun _ _ _ _ _ _ us hl => match us, hl with | [_, _], _ => rfl
  have FShare___init__ := fun_mk (st := s_Share___init__) lShare___init__ cShare___init__ kShare___init__
  have bShare___init__ := FShare___init__.binds (ps := ["self", "over", "under"]) fun _ _ _ _ _ _ us hl => match us, hl with | [_, _, _], _ => rfl
  have FShare___mul__ := fun_mk (st := s_Share___mul__) lShare___mul__ cShare___mul__ kShare___mul__
  have bShare___mul__ := FShare___mul__.binds (ps := ["self", "other"]) fun _ _ _ _ _ _ us hl => match us, hl with | [_, _], _ => rfl
  have Fnext_shares := fun_mk (st := s_next_shares) lnext_shares cnext_shares knext_shares
  have bnext_shares := Fnext_shares.binds (ps := ["net", "letters"]) fun _ _ _ _ _ _ us hl => match us, hl with | [_, _], _ => rfl
  have Ftext_share := fun_mk (st := s_text_share) ltext_share ctext_share ktext_share
  have btext_share := Ftext_share.binds (ps := ["net", "prompt", "text"]) fun _ _ _ _ _ _ us hl => match us, hl with | [_, _, _], _ => rfl
  have Fis_between := fun_mk (st := s_is_between) lis_between cis_between kis_between
  have bis_between := Fis_between.binds (ps := ["value", "least", "most"]) fun _ _ _ _ _ _ us hl => match us, hl with | [_, _, _], _ => rfl
  have Fvector_of := fun_mk (st := s_vector_of) lvector_of cvector_of kvector_of
  have bvector_of := Fvector_of.binds (ps := ["numbers"]) fun _ _ _ _ _ _ us hl => match us, hl with | [_], _ => rfl
  have Fmatrix_of := fun_mk (st := s_matrix_of) lmatrix_of cmatrix_of kmatrix_of
  have bmatrix_of := Fmatrix_of.binds (ps := ["rows"]) fun _ _ _ _ _ _ us hl => match us, hl with | [_], _ => rfl
  have Fproduct_sum := fun_mk (st := s_product_sum) lproduct_sum cproduct_sum kproduct_sum
  have bproduct_sum := Fproduct_sum.binds (ps := ["one", "two"]) fun _ _ _ _ _ _ us hl => match us, hl with | [_, _], _ => rfl
  have FNet___init__ := fun_mk (st := s_Net___init__) lNet___init__ cNet___init__ kNet___init__
  have bNet___init__ := FNet___init__.binds (ps := ["self", "prime", "embed", "shift", "layers", "out", "end"]) fun _ _ _ _ _ _ us hl => match us, hl with | [_, _, _, _, _, _, _], _ => rfl
  have FNet_is_letter := fun_mk (st := s_Net_is_letter) lNet_is_letter cNet_is_letter kNet_is_letter
  have bNet_is_letter := FNet_is_letter.binds (ps := ["self", "value"]) fun _ _ _ _ _ _ us hl => match us, hl with | [_, _], _ => rfl
  have FNet_rest := fun_mk (st := s_Net_rest) lNet_rest cNet_rest kNet_rest
  have bNet_rest := FNet_rest.binds (ps := ["self", "number"]) fun _ _ _ _ _ _ us hl => match us, hl with | [_, _], _ => rfl
  have FNet_times := fun_mk (st := s_Net_times) lNet_times cNet_times kNet_times
  have bNet_times := FNet_times.binds (ps := ["self", "matrix", "vector"]) fun _ _ _ _ _ _ us hl => match us, hl with | [_, _, _], _ => rfl
  have FNet_plus := fun_mk (st := s_Net_plus) lNet_plus cNet_plus kNet_plus
  have bNet_plus := FNet_plus.binds (ps := ["self", "one", "two"]) fun _ _ _ _ _ _ us hl => match us, hl with | [_, _, _], _ => rfl
  have FNet_looked_at := fun_mk (st := s_Net_looked_at) lNet_looked_at cNet_looked_at kNet_looked_at
  have bNet_looked_at := FNet_looked_at.binds (ps := ["self", "query", "pairs"]) fun _ _ _ _ _ _ us hl => match us, hl with | [_, _, _], _ => rfl
  have FNet_row := fun_mk (st := s_Net_row) lNet_row cNet_row kNet_row
  have bNet_row := FNet_row.binds (ps := ["self", "rows", "letter"]) fun _ _ _ _ _ _ us hl => match us, hl with | [_, _, _], _ => rfl
  have FL_numbers := fun_mk (st := s_L_numbers) lL_numbers cL_numbers kL_numbers
  have bL_numbers := FL_numbers.binds (ps := ["_law_cell", "_law_at", "_law_many"]) fun _ _ _ _ _ _ us hl => match us, hl with | [_, _, _], _ => rfl
  have FL_same := fun_mk (st := s_L_same) lL_same cL_same kL_same
  have bL_same := FL_same.binds (ps := ["_law_actual", "_law_expected"]) fun _ _ _ _ _ _ us hl => match us, hl with | [_, _], _ => rfl
  have FL_vector := fun_mk (st := s_L_vector) lL_vector cL_vector kL_vector
  have bL_vector := FL_vector.binds (ps := ["_law_numbers_here", "_law_at", "_law_width", "_law_prime"]) fun _ _ _ _ _ _ us hl => match us, hl with | [_, _, _, _], _ => rfl
  have FL_net := fun_mk (st := s_L_net) lL_net cL_net kL_net
  have bL_net := FL_net.binds (ps := ["_law_numbers_here", "_law_letters", "_law_width", "_law_many", "_law_prime"]) fun _ _ _ _ _ _ us hl => match us, hl with | [_, _, _, _, _], _ => rfl
  have FL_dot := fun_mk (st := s_L_dot) lL_dot cL_dot kL_dot
  have bL_dot := FL_dot.binds (ps := ["_law_one", "_law_other", "_law_prime"]) fun _ _ _ _ _ _ us hl => match us, hl with | [_, _, _], _ => rfl
  have FL_times := fun_mk (st := s_L_times) lL_times cL_times kL_times
  have bL_times := FL_times.binds (ps := ["_law_matrix", "_law_vector_here", "_law_prime"]) fun _ _ _ _ _ _ us hl => match us, hl with | [_, _, _], _ => rfl
  have FL_row := fun_mk (st := s_L_row) lL_row cL_row kL_row
  have bL_row := FL_row.binds (ps := ["_law_net_here", "_law_rows", "_law_letter"]) fun _ _ _ _ _ _ us hl => match us, hl with | [_, _, _], _ => rfl
  have FL_common := fun_mk (st := s_L_common) lL_common cL_common kL_common
  have bL_common := FL_common.binds (ps := ["_law_one", "_law_other"]) fun _ _ _ _ _ _ us hl => match us, hl with | [_, _], _ => rfl
  have FL_least := fun_mk (st := s_L_least) lL_least cL_least kL_least
  have bL_least := FL_least.binds (ps := ["_law_over", "_law_under"]) fun _ _ _ _ _ _ us hl => match us, hl with | [_, _], _ => rfl
  have FL_plus := fun_mk (st := s_L_plus) lL_plus cL_plus kL_plus
  have bL_plus := FL_plus.binds (ps := ["_law_one", "_law_other"]) fun _ _ _ _ _ _ us hl => match us, hl with | [_, _], _ => rfl
  have FL_by := fun_mk (st := s_L_by) lL_by cL_by kL_by
  have bL_by := FL_by.binds (ps := ["_law_one", "_law_other"]) fun _ _ _ _ _ _ us hl => match us, hl with | [_, _], _ => rfl
  have FL_is_share := fun_mk (st := s_L_is_share) lL_is_share cL_is_share kL_is_share
  have bL_is_share := FL_is_share.binds (ps := ["_law_told", "_law_due"]) fun _ _ _ _ _ _ us hl => match us, hl with | [_, _], _ => rfl
  have FL_shares := fun_mk (st := s_L_shares) lL_shares cL_shares kL_shares
  have bL_shares := FL_shares.binds (ps := ["_law_net_here", "_law_kept", "_law_letters"]) fun _ _ _ _ _ _ us hl => match us, hl with | [_, _, _], _ => rfl
  have FL_text_share := fun_mk (st := s_L_text_share) lL_text_share cL_text_share kL_text_share
  have bL_text_share := FL_text_share.binds (ps := ["_law_net_here", "_law_kept", "_law_prompt", "_law_text"]) fun _ _ _ _ _ _ us hl => match us, hl with | [_, _, _, _], _ => rfl
  have FL_asked := fun_mk (st := s_L_asked) lL_asked cL_asked kL_asked
  have bL_asked := FL_asked.binds (ps := ["_law_told", "_law_net_here", "_law_kept", "_law_letters", "_law_prompt", "_law_text", "_law_listed"]) fun _ _ _ _ _ _ us hl => match us, hl with | [_, _, _, _, _, _, _], _ => rfl
  have Flaw := fun_mk (st := s_law) llaw claw klaw
  have blaw := Flaw.binds (ps := ["_law_script"]) fun _ _ _ _ _ _ us hl => match us, hl with | [_], _ => rfl
  let T : Txt K mg := { c_Net := _, C_Net := ⟨pgNet, hdNet, poNet, saNet⟩, gc_Net := PySem.W.mg_of X G aCNet, n_Net_prime := nNet_prime, n_Net_embed := nNet_embed, n_Net_shift := nNet_shift, n_Net_layers := nNet_layers, n_Net_out := nNet_out, n_Net_end := nNet_end, c_Share := _, C_Share := ⟨pgShare, hdShare, poShare, saShare⟩, gc_Share := PySem.W.mg_of X G aCShare, n_Share_over := nShare_over, n_Share_under := nShare_under, k_PRIMES := _, gk_PRIMES := PySem.W.mg_of X G aKPRIMES, tk_PRIMES := fun _ => .inr ⟨_, itKPRIMES, nKPRIMES, lKPRIMES, rfl, rfl, vKPRIMES.1, vKPRIMES.2⟩, a_u_wall := _, d_u_wall := _, F_u_wall := Fu_wall, b_u_wall := bu_wall, g_u_wall := PySem.W.mg_of X G au_wall, a_rows_of := _, d_rows_of := _, F_rows_of := Frows_of, b_rows_of := brows_of, g_rows_of := PySem.W.mg_of X G arows_of, a_weights_behind := _, d_weights_behind := _, F_weights_behind := Fweights_behind, b_weights_behind := bweights_behind, g_weights_behind := PySem.W.mg_of X G aweights_behind, a_greatest_divisor := _, d_greatest_divisor := _, F_greatest_divisor := Fgreatest_divisor, b_greatest_divisor := bgreatest_divisor, g_greatest_divisor := PySem.W.mg_of X G agreatest_divisor, a_Share___init__ := _, d_Share___init__ := _, F_Share___init__ := FShare___init__, b_Share___init__ := bShare___init__, M_Share := ⟨mkShare, aShare___init__, iShare___init__, kcShare⟩, a_Share___mul__ := _, d_Share___mul__ := _, F_Share___mul__ := FShare___mul__, b_Share___mul__ := bShare___mul__, m_Share___mul__ := ⟨aShare___mul__, iShare___mul__, kShare___mul__⟩, bo_Share___mul__ := ⟨aShare___mul__, iShare___mul__, sfShare⟩, a_next_shares := _, d_next_shares := _, F_next_shares := Fnext_shares, b_next_shares := bnext_shares, g_next_shares := PySem.W.mg_of X G anext_shares, a_text_share := _, d_text_share := _, F_text_share := Ftext_share, b_text_share := btext_share, g_text_share := PySem.W.mg_of X G atext_share, a_is_between := _, d_is_between := _, F_is_between := Fis_between, b_is_between := bis_between, g_is_between := PySem.W.mg_of X G ais_between, a_vector_of := _, d_vector_of := _, F_vector_of := Fvector_of, b_vector_of := bvector_of, g_vector_of := PySem.W.mg_of X G avector_of, a_matrix_of := _, d_matrix_of := _, F_matrix_of := Fmatrix_of, b_matrix_of := bmatrix_of, g_matrix_of := PySem.W.mg_of X G amatrix_of, a_product_sum := _, d_product_sum := _, F_product_sum := Fproduct_sum, b_product_sum := bproduct_sum, g_product_sum := PySem.W.mg_of X G aproduct_sum, a_Net___init__ := _, d_Net___init__ := _, F_Net___init__ := FNet___init__, b_Net___init__ := bNet___init__, M_Net := ⟨mkNet, aNet___init__, iNet___init__, kcNet⟩, a_Net_is_letter := _, d_Net_is_letter := _, F_Net_is_letter := FNet_is_letter, b_Net_is_letter := bNet_is_letter, m_Net_is_letter := ⟨aNet_is_letter, iNet_is_letter, kNet_is_letter⟩, a_Net_rest := _, d_Net_rest := _, F_Net_rest := FNet_rest, b_Net_rest := bNet_rest, m_Net_rest := ⟨aNet_rest, iNet_rest, kNet_rest⟩, a_Net_times := _, d_Net_times := _, F_Net_times := FNet_times, b_Net_times := bNet_times, m_Net_times := ⟨aNet_times, iNet_times, kNet_times⟩, a_Net_plus := _, d_Net_plus := _, F_Net_plus := FNet_plus, b_Net_plus := bNet_plus, m_Net_plus := ⟨aNet_plus, iNet_plus, kNet_plus⟩, a_Net_looked_at := _, d_Net_looked_at := _, F_Net_looked_at := FNet_looked_at, b_Net_looked_at := bNet_looked_at, m_Net_looked_at := ⟨aNet_looked_at, iNet_looked_at, kNet_looked_at⟩, a_Net_row := _, d_Net_row := _, F_Net_row := FNet_row, b_Net_row := bNet_row, m_Net_row := ⟨aNet_row, iNet_row, kNet_row⟩, a_L_numbers := _, d_L_numbers := _, F_L_numbers := FL_numbers, b_L_numbers := bL_numbers, g_L_numbers := PySem.W.mg_of X G aL_numbers, a_L_same := _, d_L_same := _, F_L_same := FL_same, b_L_same := bL_same, g_L_same := PySem.W.mg_of X G aL_same, a_L_vector := _, d_L_vector := _, F_L_vector := FL_vector, b_L_vector := bL_vector, g_L_vector := PySem.W.mg_of X G aL_vector, a_L_net := _, d_L_net := _, F_L_net := FL_net, b_L_net := bL_net, g_L_net := PySem.W.mg_of X G aL_net, a_L_dot := _, d_L_dot := _, F_L_dot := FL_dot, b_L_dot := bL_dot, g_L_dot := PySem.W.mg_of X G aL_dot, a_L_times := _, d_L_times := _, F_L_times := FL_times, b_L_times := bL_times, g_L_times := PySem.W.mg_of X G aL_times, a_L_row := _, d_L_row := _, F_L_row := FL_row, b_L_row := bL_row, g_L_row := PySem.W.mg_of X G aL_row, a_L_common := _, d_L_common := _, F_L_common := FL_common, b_L_common := bL_common, g_L_common := PySem.W.mg_of X G aL_common, a_L_least := _, d_L_least := _, F_L_least := FL_least, b_L_least := bL_least, g_L_least := PySem.W.mg_of X G aL_least, a_L_plus := _, d_L_plus := _, F_L_plus := FL_plus, b_L_plus := bL_plus, g_L_plus := PySem.W.mg_of X G aL_plus, a_L_by := _, d_L_by := _, F_L_by := FL_by, b_L_by := bL_by, g_L_by := PySem.W.mg_of X G aL_by, a_L_is_share := _, d_L_is_share := _, F_L_is_share := FL_is_share, b_L_is_share := bL_is_share, g_L_is_share := PySem.W.mg_of X G aL_is_share, a_L_shares := _, d_L_shares := _, F_L_shares := FL_shares, b_L_shares := bL_shares, g_L_shares := PySem.W.mg_of X G aL_shares, a_L_text_share := _, d_L_text_share := _, F_L_text_share := FL_text_share, b_L_text_share := bL_text_share, g_L_text_share := PySem.W.mg_of X G aL_text_share, a_L_asked := _, d_L_asked := _, F_L_asked := FL_asked, b_L_asked := bL_asked, g_L_asked := PySem.W.mg_of X G aL_asked, a_law := _, d_law := _, F_law := Flaw, b_law := blaw, g_law := PySem.W.mg_of X G alaw, z_abs := PySem.W.mg_none_of X G zabs, z_bool := PySem.W.mg_none_of X G zbool, z_enumerate := PySem.W.mg_none_of X G zenumerate, z_int := PySem.W.mg_none_of X G zint, z_isinstance := PySem.W.mg_none_of X G zisinstance, z_len := PySem.W.mg_none_of X G zlen, z_list := PySem.W.mg_none_of X G zlist, z_min := PySem.W.mg_none_of X G zmin, z_range := PySem.W.mg_none_of X G zrange, z_str := PySem.W.mg_none_of X G zstr, z_sum := PySem.W.mg_none_of X G zsum, z_tuple := PySem.W.mg_none_of X G ztuple, z_zip := PySem.W.mg_none_of X G zzip }
  exact ⟨_, fun s v => .of_eq rfl, fun base _ _ => ok_law (P := l.prog) (w := w) (base := base) T⟩
theorem walk {l : PySem.W.OpenLaw} {q : Program} {loose : List Str} {XP : (Str → Option Value) → Heap → Prop} {YP : World → Heap → Prop} {d : DefRec} {K : Params → PySem.W.Frag} (hn : l.most = some 63) (hdf : d.params.defaults = [])
    (hY : ∀ (w : World) (h : Heap), YP w h → (K w.params).In h)
    (F : ∀ (w : World) (mg : Str → Option Value) (fa : Addr) (h : Heap), (K w.params).In h → h.Ns mainGlobals mg → mg d.name = some (.ref fa) →
      ∃ fd : FuncData, (∀ (s : Shared) (u : Value), BindsTo s fd ⟨[u], []⟩ [("_law_script", u)]) ∧ ∀ base : Heap, (K w.params).In base → base.Ns mainGlobals mg → FnOk l.prog w (K w.params) mg base CX0 10 fa fd ["_law_script"] (sp_law (K w.params))) :
    PySem.W.WalkO q loose XP YP l.row.toRowW d [] (fun f vs => PySem.call f vs) :=
  L2.walk_of (n := 63) (k := 10) (x := "_law_script") (CX := fun _ => CX0) (sp := fun w => sp_law (K w.params)) hn (by decide) hdf ⟨rfl, by decide, by decide⟩ hY F (fun _ _ a ns hl _ hS => ⟨a, ns, rfl, hS, hl, fun _ => rfl⟩) fun _ _ _ _ _ z => z
end My

open PySem PySem.W PyProof.Rows
set_option maxRecDepth 100000 in
set_option maxHeartbeats 0 in
theorem PySem.Challenge.cw_servedalone_k59_next_shares_and_texts_holds : PySem.Challenge.rw_servedalone_k59_next_shares_and_texts.Holds := by
  w_on; o_law; k_head; (case hw => w_witness2)
  k_fill
  refine My.walk (l := PySem.Challenge.rw_servedalone_k59_next_shares_and_texts) rfl rfl (fun w h Y => PySem.W.kIn_of Y) ?F
  case F =>
    intro w mg fa h KX G hmg
    refine' My.all_mk KX G hmg ?aCNet ?pgNet ?hdNet ?poNet ?saNet ?mkNet ?kcNet ?nNet_prime ?nNet_embed ?nNet_shift ?nNet_layers ?nNet_out ?nNet_end ?aCShare ?pgShare ?hdShare ?poShare ?saShare ?mkShare ?kcShare ?nShare_over ?nShare_under ?aKPRIMES ?lKPRIMES ?vKPRIMES ?au_wall ?lu_wall ?cu_wall ?ku_wall ?arows_of ?lrows_of ?crows_of ?krows_of ?aweights_behind ?lweights_behind ?cweights_behind ?kweights_behind ?agreatest_divisor ?lgreatest_divisor ?cgreatest_divisor ?kgreatest_divisor ?aShare___init__ ?iShare___init__ ?lShare___init__ ?cShare___init__ ?kShare___init__ ?aShare___mul__ ?iShare___mul__ ?lShare___mul__ ?cShare___mul__ ?kShare___mul__ ?sfShare ?anext_shares ?lnext_shares ?cnext_shares ?knext_shares ?atext_share ?ltext_share ?ctext_share ?ktext_share ?ais_between ?lis_between ?cis_between ?kis_between ?avector_of ?lvector_of ?cvector_of ?kvector_of ?amatrix_of ?lmatrix_of ?cmatrix_of ?kmatrix_of ?aproduct_sum ?lproduct_sum ?cproduct_sum ?kproduct_sum ?aNet___init__ ?iNet___init__ ?lNet___init__ ?cNet___init__ ?kNet___init__ ?aNet_is_letter ?iNet_is_letter ?lNet_is_letter ?cNet_is_letter ?kNet_is_letter ?aNet_rest ?iNet_rest ?lNet_rest ?cNet_rest ?kNet_rest ?aNet_times ?iNet_times ?lNet_times ?cNet_times ?kNet_times ?aNet_plus ?iNet_plus ?lNet_plus ?cNet_plus ?kNet_plus ?aNet_looked_at ?iNet_looked_at ?lNet_looked_at ?cNet_looked_at ?kNet_looked_at ?aNet_row ?iNet_row ?lNet_row ?cNet_row ?kNet_row ?aL_numbers ?lL_numbers ?cL_numbers ?kL_numbers ?aL_same ?lL_same ?cL_same ?kL_same ?aL_vector ?lL_vector ?cL_vector ?kL_vector ?aL_net ?lL_net ?cL_net ?kL_net ?aL_dot ?lL_dot ?cL_dot ?kL_dot ?aL_times ?lL_times ?cL_times ?kL_times ?aL_row ?lL_row ?cL_row ?kL_row ?aL_common ?lL_common ?cL_common ?kL_common ?aL_least ?lL_least ?cL_least ?kL_least ?aL_plus ?lL_plus ?cL_plus ?kL_plus ?aL_by ?lL_by ?cL_by ?kL_by ?aL_is_share ?lL_is_share ?cL_is_share ?kL_is_share ?aL_shares ?lL_shares ?cL_shares ?kL_shares ?aL_text_share ?lL_text_share ?cL_text_share ?kL_text_share ?aL_asked ?lL_asked ?cL_asked ?kL_asked ?alaw ?llaw ?claw ?klaw ?zabs ?zbool ?zenumerate ?zint ?zisinstance ?zlen ?zlist ?zmin ?zrange ?zstr ?zsum ?ztuple ?zzip
    (case aCNet => k_is)
    (case pgNet => k_is)
    (case hdNet => k_is)
    (case poNet => k_is)
    (case saNet => k_is)
    (case mkNet => k_is)
    (case kcNet => k_is)
    (case nNet_prime => k_is)
    (case nNet_embed => k_is)
    (case nNet_shift => k_is)
    (case nNet_layers => k_is)
    (case nNet_out => k_is)
    (case nNet_end => k_is)
    (case aCShare => k_is)
    (case pgShare => k_is)
    (case hdShare => k_is)
    (case poShare => k_is)
    (case saShare => k_is)
    (case mkShare => k_is)
    (case kcShare => k_is)
    (case nShare_over => k_is)
    (case nShare_under => k_is)
    (case aKPRIMES => k_is)
    (case lKPRIMES => k_is)
    (case vKPRIMES => refine ⟨by decide, ?_⟩; repeat (first | exact Paired.nil | refine Paired.cons ⟨_, rfl⟩ ?_))
    (case au_wall => k_is)
    (case lu_wall => k_is)
    (case cu_wall => k_is)
    (case ku_wall => k_is)
    (case arows_of => k_is)
    (case lrows_of => k_is)
    (case crows_of => k_is)
    (case krows_of => k_is)
    (case aweights_behind => k_is)
    (case lweights_behind => k_is)
    (case cweights_behind => k_is)
    (case kweights_behind => k_is)
    (case agreatest_divisor => k_is)
    (case lgreatest_divisor => k_is)
    (case cgreatest_divisor => k_is)
    (case kgreatest_divisor => k_is)
    (case aShare___init__ => k_is)
    (case iShare___init__ => k_is)
    (case lShare___init__ => k_is)
    (case cShare___init__ => k_is)
    (case kShare___init__ => k_is)
    (case aShare___mul__ => k_is)
    (case iShare___mul__ => k_is)
    (case lShare___mul__ => k_is)
    (case cShare___mul__ => k_is)
    (case kShare___mul__ => k_is)
    (case sfShare => k_is)
    (case anext_shares => k_is)
    (case lnext_shares => k_is)
    (case cnext_shares => k_is)
    (case knext_shares => k_is)
    (case atext_share => k_is)
    (case ltext_share => k_is)
    (case ctext_share => k_is)
    (case ktext_share => k_is)
    (case ais_between => k_is)
    (case lis_between => k_is)
    (case cis_between => k_is)
    (case kis_between => k_is)
    (case avector_of => k_is)
    (case lvector_of => k_is)
    (case cvector_of => k_is)
    (case kvector_of => k_is)
    (case amatrix_of => k_is)
    (case lmatrix_of => k_is)
    (case cmatrix_of => k_is)
    (case kmatrix_of => k_is)
    (case aproduct_sum => k_is)
    (case lproduct_sum => k_is)
    (case cproduct_sum => k_is)
    (case kproduct_sum => k_is)
    (case aNet___init__ => k_is)
    (case iNet___init__ => k_is)
    (case lNet___init__ => k_is)
    (case cNet___init__ => k_is)
    (case kNet___init__ => k_is)
    (case aNet_is_letter => k_is)
    (case iNet_is_letter => k_is)
    (case lNet_is_letter => k_is)
    (case cNet_is_letter => k_is)
    (case kNet_is_letter => k_is)
    (case aNet_rest => k_is)
    (case iNet_rest => k_is)
    (case lNet_rest => k_is)
    (case cNet_rest => k_is)
    (case kNet_rest => k_is)
    (case aNet_times => k_is)
    (case iNet_times => k_is)
    (case lNet_times => k_is)
    (case cNet_times => k_is)
    (case kNet_times => k_is)
    (case aNet_plus => k_is)
    (case iNet_plus => k_is)
    (case lNet_plus => k_is)
    (case cNet_plus => k_is)
    (case kNet_plus => k_is)
    (case aNet_looked_at => k_is)
    (case iNet_looked_at => k_is)
    (case lNet_looked_at => k_is)
    (case cNet_looked_at => k_is)
    (case kNet_looked_at => k_is)
    (case aNet_row => k_is)
    (case iNet_row => k_is)
    (case lNet_row => k_is)
    (case cNet_row => k_is)
    (case kNet_row => k_is)
    (case aL_numbers => k_is)
    (case lL_numbers => k_is)
    (case cL_numbers => k_is)
    (case kL_numbers => k_is)
    (case aL_same => k_is)
    (case lL_same => k_is)
    (case cL_same => k_is)
    (case kL_same => k_is)
    (case aL_vector => k_is)
    (case lL_vector => k_is)
    (case cL_vector => k_is)
    (case kL_vector => k_is)
    (case aL_net => k_is)
    (case lL_net => k_is)
    (case cL_net => k_is)
    (case kL_net => k_is)
    (case aL_dot => k_is)
    (case lL_dot => k_is)
    (case cL_dot => k_is)
    (case kL_dot => k_is)
    (case aL_times => k_is)
    (case lL_times => k_is)
    (case cL_times => k_is)
    (case kL_times => k_is)
    (case aL_row => k_is)
    (case lL_row => k_is)
    (case cL_row => k_is)
    (case kL_row => k_is)
    (case aL_common => k_is)
    (case lL_common => k_is)
    (case cL_common => k_is)
    (case kL_common => k_is)
    (case aL_least => k_is)
    (case lL_least => k_is)
    (case cL_least => k_is)
    (case kL_least => k_is)
    (case aL_plus => k_is)
    (case lL_plus => k_is)
    (case cL_plus => k_is)
    (case kL_plus => k_is)
    (case aL_by => k_is)
    (case lL_by => k_is)
    (case cL_by => k_is)
    (case kL_by => k_is)
    (case aL_is_share => k_is)
    (case lL_is_share => k_is)
    (case cL_is_share => k_is)
    (case kL_is_share => k_is)
    (case aL_shares => k_is)
    (case lL_shares => k_is)
    (case cL_shares => k_is)
    (case kL_shares => k_is)
    (case aL_text_share => k_is)
    (case lL_text_share => k_is)
    (case cL_text_share => k_is)
    (case kL_text_share => k_is)
    (case aL_asked => k_is)
    (case lL_asked => k_is)
    (case cL_asked => k_is)
    (case kL_asked => k_is)
    (case alaw => k_is)
    (case llaw => k_is)
    (case claw => k_is)
    (case klaw => k_is)
    (case zabs => k_is)
    (case zbool => k_is)
    (case zenumerate => k_is)
    (case zint => k_is)
    (case zisinstance => k_is)
    (case zlen => k_is)
    (case zlist => k_is)
    (case zmin => k_is)
    (case zrange => k_is)
    (case zstr => k_is)
    (case zsum => k_is)
    (case ztuple => k_is)
    (case zzip => k_is)
#print axioms PySem.Challenge.cw_servedalone_k59_next_shares_and_texts_holds
