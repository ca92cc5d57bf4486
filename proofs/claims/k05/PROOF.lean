import PyProof.Rows.All
import Wide.All
import OpenK.AllK
import Wide.FinOn
import HandS.ForMost
import HandS.Walk
import HandS.IsInst
import HandS.Evl
import HandS.Property
import HandS.Conv
import HandS.TupAny
import HandS.MakeKwOnly
import HandS.ExcInit
import HandS.ExcField
import HandS.ExcIs
import HandS.ExcOwn
import HandS.WordsExc
import HandS.RaiseMore
import HandS.HotCalls
import PyProof.ReprRoads
import PyProof.ReprBulk
import PyProof.InstNe
import KE.KTupSum
import KE.GoesMore
import KE.GoesEnum
import KE.GoesZip
import PySem.Challenge.RW_servedalone_k05_asks_and_choices
set_option Elab.async false
set_option linter.all false
set_option maxRecDepth 100000
set_option maxHeartbeats 4000000
namespace L2
open PySem PySem.Spec PyProof.Rows

/-! ### own rules: either of two readings; sums, enumerate and walks of lists or tuples -/
theorem PI.or {X : Cx} {tg iter : Expr} {w1 w2 : TI} (h1 : PI X tg iter w1) (h2 : PI X tg iter w2) : PI X tg iter (fun σ H R => w1 σ H R ∨ w2 σ H R) := by
  refine ⟨fun pins s σ H R I h => ?_⟩
  rcases h with h | h
  · exact h1.run pins s σ H R I h
  · exact h2.run pins s σ H R I h

section
variable {X : Cx}
def rAddG (K : PySem.W.Frag) : R2 := fun x y H Q => (rI0 fun i j => .int (i + j)) x y H Q ∨ rCatT K x y H Q ∨ rCat x y H Q
theorem op_addG : OpR X (binaryOp .Add) (rAddG X.K) := op_add.or (op_catT.or op_cat)
def rEqG (K : PySem.W.Frag) : R2 := fun x y H Q => rEq x y H Q ∨ rEqD K x y H Q
def rNeG (K : PySem.W.Frag) : R2 := fun x y H Q => rNe x y H Q ∨ rNeD K x y H Q
theorem op_eqG (hu : X.A.units + 64 < cLine) : OpR X (compareOp .Eq) (rEqG X.K) := op_eq.or (op_eqD hu)
theorem op_neG (hu : X.A.units + 64 < cLine) : OpR X (compareOp .NotEq) (rNeG X.K) := op_ne.or (op_neD hu)
def rSlG (K : PySem.W.Frag) : V → Option Int → Option Int → Hp → VK → Prop := fun x lo hi H Q => rSlL K x lo hi H Q ∨ rSlA K x lo hi H Q
theorem sl_seqG : SlR X (rSlG X.K) := sl_list.or sl_tupA
def rSumS (K : PySem.W.Frag) : List V → Hp → VK → Prop := fun vs H Q => ∃ (a : Addr) (ns : List Int), vs = [V.ref a] ∧ (SqL K H a (ns.map V.int) ∨ SqT K H a (ns.map V.int)) ∧ Q (.int ns.sum) H
theorem cr_sumS (hc : X.calm = true) : CallR X (.builtin "sum") (rSumS X.K) := by
  intro pins s σ H vs us Q I r h
  obtain ⟨a, ns, rfl, hs, q⟩ := h
  rw [Vals.ref1 r]
  rcases hs with hs | hs
  · obtain ⟨its, rv, hl, _⟩ := I.list hs
    exact sum_raw (I.ok.hd hc) hl.isList rv.ints fun h' tk t' hk => ⟨.int _, H, I.kept hk, ⟨_, rfl⟩, q⟩
  · obtain ⟨its, rv, ht, _⟩ := I.tuple hs
    have hi := rv.ints
    obtain ⟨xs, e⟩ := hi.allInts.items
    have hn : numsOf (intItems xs).toList = ns := by rw [← e]; exact hi.numsOf
    rw [nums_intItems] at hn
    have ht' : s.heap.IsTuple a its.toArray := ht
    rw [e] at ht'
    refine PySem.W.ktm_sumG (I.ok.hd hc) ht' fun h' tk t' hk => ⟨.int ns.sum, H, I.kept hk, ⟨t', ?_⟩, q⟩
    rw [preSum_eq, List.take_of_length_le (by simp), hn]

end

/-! ### enumerate(tuple) -/
def IteT (K : PySem.W.Frag) (a : Addr) : It :=
  ⟨fun i H => ∃ (xs : List V) (x : V), SqT K H a xs ∧ xs[i]? = some x, fun i H v H' => ∃ T x, v = .ref T ∧ H T = none ∧ H' = upd H T (.tup [.int (i : Nat), x]) ∧ ∀ xs, SqT K H a xs → xs[i]? = some x, fun i H => ∃ xs : List V, SqT K H a xs ∧ xs.length ≤ i⟩
theorem tup_ne_iter {h : Heap} {a it : Addr} {items : Array Value} {i : Nat} (p : IsTup h a items) (q : h.IsTupleIter it a i) : a ≠ it := by
  obtain ⟨o, ho, hc, _⟩ := p
  obtain ⟨o', ho', hc', _⟩ := q
  intro e
  subst e
  rw [ho] at ho'
  cases ho'
  rw [hc] at hc'
  exact absurd hc' (by decide)
theorem meets_enumerate_newT (l : Addr) (items : Array Value) :
    Meets (Builtin.«enumerate.__new__» ⟨[.type "enumerate", .ref l], []⟩) (fun _ R s => s.heap.IsTuple l items ∧
      R (.ok (.ret (.ref (s.heap.push { cls := .type "tuple_iterator", data := .fields #[.ref l, .int 0 0] }).objs.size)))
        { s with heap := (s.heap.push { cls := .type "tuple_iterator", data := .fields #[.ref l, .int 0 0] }).push { cls := .type "enumerate", data := .fields #[.none, .bool false, .ref s.heap.objs.size, rawInt 0, .none, .none] } }) :=
  .of_wp fun prog w A R s h => by
    obtain ⟨hp, g, d, tk, os⟩ := s; obtain ⟨h1, h⟩ := h
    have hsub := sub_enumerate
    have q1 : ∀ {A' : Around} {E : Value → Shared → Prop} {Q : Value → Shared → Prop}, Q (.ref hp.objs.size) ⟨hp.push { cls := .type "tuple_iterator", data := .fields #[.ref l, .int 0 0] }, g, d, tk, os⟩ → wpAny (model prog w) A' (pyIter (.ref l)) Q E ⟨hp, g, d, tk, os⟩ :=
      fun q => wpAny_pyIter_tuple (s := ⟨hp, g, d, tk, os⟩) h1 q
    wp_walk using q1
    refine wpAny_stack_any fun st => wpAny_pure ?_
    split
    · rename_i c _ _ _ _ _
      cases (c == Value.type "enumerate")
      · wp_walk using q1
        exact ⟨_, rfl, h⟩
      · wp_walk using q1
        exact ⟨_, rfl, h⟩
    · wp_walk using q1
      exact ⟨_, rfl, h⟩
theorem call_enumerate_tup {prog : Program} {w : World} {A : Around} {E : Value → Shared → Prop} {s : Shared} {l : Addr} {items : Array Value} {Q : Value → Shared → Prop} (hL : s.heap.IsTuple l items)
    (h : ∀ h', IsEnum h' (s.heap.objs.size + 1) s.heap.objs.size 0 .none → h'.IsTupleIter s.heap.objs.size l 0 → h'.objs.size = s.heap.objs.size + 2 →
      (∀ b o, s.heap.get? b = some o → h'.get? b = some o) → Q (.ref (s.heap.objs.size + 1)) { s with heap := h' }) :
    wpAny (model prog w) A (call (.type "enumerate") [.ref l]) Q E s := by
  refine callType_new F.called_enumerate (by decide) (F.typeCall_enumerate_1 _) (F.newCall_enumerate_1 _) (fun obj => F.args_object_init_2 obj _) F.entry_enumerate_new
    (meets_enumerate_newT l items) ⟨hL, ?_⟩
  have hz : (s.heap.push { cls := .type "tuple_iterator", data := .fields #[.ref l, .int 0 0] }).objs.size = s.heap.objs.size + 1 := Heap.size_push ..
  show _ ∧ _
  rw [hz]
  have he : IsEnum ((s.heap.push { cls := .type "tuple_iterator", data := .fields #[.ref l, .int 0 0] }).push
      { cls := .type "enumerate", data := .fields #[.none, .bool false, .ref s.heap.objs.size, rawInt 0, .none, .none] }) (s.heap.objs.size + 1) s.heap.objs.size 0 .none := by
    have := Heap.get?_push_size (s.heap.push { cls := .type "tuple_iterator", data := .fields #[.ref l, .int 0 0] })
      (o := { cls := .type "enumerate", data := .fields #[.none, .bool false, .ref s.heap.objs.size, rawInt 0, .none, .none] }) rfl
    rw [hz] at this; exact this
  refine ⟨⟨_, he, rfl⟩, h _ he ⟨_, Heap.get?_push_of_some _ (Heap.get?_push_size _ rfl), rfl, rfl⟩ (by rw [Heap.size_push, hz]) fun b o x => Heap.get?_push_of_some _ (Heap.get?_push_of_some _ x)⟩
theorem turn_enumT {P : Program} {w : World} {K : PySem.W.Frag} {elts : List Expr} {kk : Nat} {tpos : Pos} (a e it : Addr) :
    Turn P w K (.Tuple elts kk tpos) (IteT K a) [e, it] e (fun i h => (∃ old, IsEnum h e it ((i : Nat) : Int) old) ∧ h.IsTupleIter it a i ∧ e ≠ it) where
  mem := by simp
  obj := fun i h st b hb => by
    obtain ⟨⟨old, he⟩, ⟨o, ho, hc, hd⟩, _⟩ := st
    have e' : b = e ∨ b = it := by simpa using hb
    rcases e' with z | z
    · rw [z]; exact ⟨_, he, fun v q => nomatch q⟩
    · rw [z]; exact ⟨o, ho, fun v q => by rw [hd] at q; cases q⟩
  keep := fun i h h' st k => let ⟨⟨old, he⟩, hi, hne⟩ := st; ⟨⟨old, k e (by simp) _ he⟩, hi.at fun o q => k it (by simp) o q, hne⟩
  item := by
    intro X hP hw hK hc i pins s σ H E I hf st hg
    subst hP hw hK
    obtain ⟨⟨old, he⟩, hit, hne⟩ := st
    obtain ⟨xs, x, hq, hx⟩ := hg
    obtain ⟨its, rv, p, hz⟩ := I.tuple hq
    obtain ⟨u, hu, ru⟩ := rv.get hx
    have hai : a ≠ it := tup_ne_iter p hit
    have hel : e < s.heap.objs.size := Heap.lt_size he
    have hil : it < s.heap.objs.size := by obtain ⟨_, q, _⟩ := hit; exact Heap.lt_size q
    have hal : a < s.heap.objs.size := by obtain ⟨_, q, _⟩ := p; exact Heap.lt_size q
    have hae : e ≠ a := by
      obtain ⟨o, ho, hcl, _⟩ := id p
      intro z
      rw [← z, he] at ho
      cases ho
      have hcl' : (Value.type "enumerate") = Value.type "tuple" := hcl
      exact absurd hcl' (by decide)
    have hlt : i < its.toArray.size := by
      have h1 := (List.getElem?_eq_some_iff.mp hu).1
      simpa using h1
    refine wpAny_pyNext_enum_itemD (Draws.tuple (prog := X.prog) (w := X.w) (A := X.A.in1) (show X.A.in1.handled = none from I.ok.hd hc) it a hai its.toArray) he ⟨hit, p⟩ hlt hne (by simp [hne, hae]) fun y h' tk hP ho st' hT hsz hk => ?_
    have ey : y = u := by
      have h1 : its.toArray[i]? = some y := hP
      have h2 : its.toArray[i]? = some u := by simpa using hu
      rw [h1] at h2
      exact Option.some.inj h2
    subst ey
    refine ⟨_, rfl, wpAny_letOwnedTupleGo_enum (s := { s with heap := h', toks := tk + 1 }) ho fun h'' he' sb => ?_⟩
    have hT2 : h''.get? s.heap.objs.size = some { cls := .type "tuple", data := .seq #[.int i tk, y] } := (sb.2 _ (Nat.ne_of_gt hel)).trans hT
    have new : ObjOk X.prog X.w (upd H s.heap.objs.size (.tup [.int (i : Nat), x])) h'' s.heap.objs.size (.tup [.int (i : Nat), x]) :=
      ⟨by show 2 ≤ sizeLine; decide, [.int i tk, y], .cons ⟨_, rfl⟩ (.cons ru .nil), ⟨_, hT2, rfl, _, rfl⟩⟩
    have I1 : Inv X pins σ (upd H s.heap.objs.size (.tup [.int (i : Nat), x])) { s with heap := h'', toks := tk + 1 } :=
      I.turnedNew (t' := tk + 1) (ch := [e, it]) (fun b ob hb q => (sb.2 b (fun z => hb (by simp [z]))).trans (hk b ob (fun z => hb (by simp [z])) (fun z => hb (by simp [z])) q)) hf (Nat.le_refl _) new
    refine ⟨.ref s.heap.objs.size, _, I1, rfl, ⟨_, x, rfl, I.hok.fresh (Nat.le_refl _), rfl, fun ys hy => by rw [I.tuple_inj hy hq]; exact hx⟩, ⟨⟨y, ?_⟩, st'.1.at fun o q => (sb.2 it (Ne.symm hne)).trans q, hne⟩, fun b hb => ?_⟩
    · have e1 : ((i + 1 : Nat) : Int) = (i : Int) + 1 := by omega
      rw [e1]; exact he'
    · have hb' : b < s.heap.objs.size := by
        have e' : b = e ∨ b = it := by simpa using hb
        rcases e' with z | z
        · rw [z]; exact hel
        · rw [z]; exact hil
      rw [upd_ne (Nat.ne_of_lt hb')]
      exact (hf b hb).1
  done := by
    intro X hP hw hK hc i pins s σ H E I hf st hg
    subst hP hw hK
    obtain ⟨⟨old, he⟩, hit, hne⟩ := st
    obtain ⟨xs, hq, hx⟩ := hg
    obtain ⟨its, rv, p, hz⟩ := I.tuple hq
    have hai : a ≠ it := tup_ne_iter p hit
    obtain ⟨f0, f1, f2, f3, f4, f5⟩ := hf it (by simp)
    have hl := rv.length
    unfold pyNext
    have hT : s.TypeIs (.ref e) "enumerate" := ⟨_, he, rfl⟩
    refine wpAny_bind (wpAny_attempt (wpAny_callSpecial?_slot (name := Str.ofString "__next__") hT F.slot_enumerate_next
      (wpAny_call_entry F.slot_enumerate_next hT F.entry_enumerate_next ?_ (F.args_enumerate_next_1 _))))
    show wpAny _ _ (field (.ref e) 2 >>= _) _ _ _
    refine wpAny_bind (wpAny_field he rfl (x := .ref it) rfl ?_)
    refine wpAny_bind (wpAny_nextOf_tuple_end (show X.A.in1.handled = none from I.ok.hd hc) hit p (by simp; omega) fun h' x he' hx' => ?_)
    obtain ⟨o, ho, hcx⟩ := hx'
    refine wpAny_bind (wpAny_isInstance (T := "StopIteration") (b := true) ⟨o, ho, hcx⟩ isSubtype_stop ?_)
    exact wpAny_pure ⟨rfl, I.turned (t' := s.toks) (fun b o hb q => he' b o hb q) f0 f1 f3 f4 f5⟩
  self := fun A i s Q E st h => let ⟨⟨_, he⟩, _⟩ := st; wpAny_pyIter_enum he h
def iEnumT (K : PySem.W.Frag) (ta : TA) : TI := fun σ H R => ta σ H fun vs H1 => ∃ a xs, vs = [.ref a] ∧ SqT K H1 a xs ∧ R (IteT K a) H1
theorem pi_enumT {X : Cx} {e : Expr} {ta : TA} {p pos tpos : Pos} {elts : List Expr} {kk : Nat} (hg : Gl X "enumerate") (hm : X.mg "enumerate" = none) (ha : PA X [e] ta) (hs : starEach [e] X.env = [(false, eval e X.env)] := by rfl) :
    PI X (.Tuple elts kk tpos) (.Call (.Name "enumerate" p) [e] [] pos) (iEnumT X.K ta) := by
  refine ⟨fun pins s σ H R I h => ?_⟩
  refine Call_ (ld_blt I hg hm boot_enumerate (PyProof.Rows.callWith_type1 (thn (ha.run pos pins s σ H _ I h) fun us s1 ⟨vs, H1, I1, r1, q1⟩ => ?_) hs rfl))
  obtain ⟨a, xs, ex, hq, q⟩ := q1
  subst ex
  cases r1 with
  | cons r rr =>
    cases rr
    cases r
    obtain ⟨its, rv, p', hz⟩ := I1.tuple hq
    refine call_enumerate_tup p' fun h' he hit hsz hk => wpAny_pyIter_enum he ?_
    have I2 : Inv X pins σ H1 { s1 with heap := h' } := I1.kept (t' := s1.toks) hk
    refine ⟨s1.heap.objs.size + 1, [s1.heap.objs.size + 1, s1.heap.objs.size], _, _, H1, rfl, I2, turn_enumT a (s1.heap.objs.size + 1) s1.heap.objs.size, ⟨⟨.none, he⟩, hit, Nat.succ_ne_self _⟩, fun b hb => ?_, q⟩
    have e' : b = s1.heap.objs.size + 1 ∨ b = s1.heap.objs.size := by simpa using hb
    have hle : s1.heap.objs.size ≤ b := by
      rcases e' with z | z
      · rw [z]; exact Nat.le_add_right _ _
      · rw [z]; exact Nat.le_refl _
    exact I1.fpOk hle (I1.hok.fresh hle)
theorem walk_enumT {K : PySem.W.Frag} {a : Addr} {xs : List V} : Walk (IteT K a) xs.length (fun H => SqT K H a xs) (YPair (fun i => some (.int (i : Nat))) (fun i => xs[i]?)) := by
  refine ⟨fun i _ hi q => ⟨xs, xs[i], q, by simp [hi]⟩, fun _ q => ⟨xs, q, Nat.le_refl _⟩, fun i H v H' _ q y => ?_⟩
  obtain ⟨T, x, h1, h2, h3, h4⟩ := y
  exact ⟨T, .int (i : Nat), x, h1, h2, h3, rfl, h4 xs q⟩
end L2

namespace L2
open PySem PySem.Spec PyProof.Rows

/-! ### names for readings -/
section
variable {X : Cx}
def rInt1 : List V → Hp → VK → Prop := fun xs H Q => (∃ i, xs = [.int i] ∧ Q (.int i) H) ∨ ∃ k, xs = [.bl k] ∧ Q (.int (if k then 1 else 0)) H
theorem cr_int1 : CallR X (.type "int") rInt1 := call_int1
def rAbs : List V → Hp → VK → Prop := fun xs H Q => ∃ i, xs = [.int i] ∧ Q (.int (if i < 0 then -i else i)) H
theorem cr_abs : CallR X (.builtin "abs") rAbs := call_abs
def rMax2 : List V → Hp → VK → Prop := fun xs H Q => ∃ i j, xs = [.int i, .int j] ∧ Q (.int (if j > i then j else i)) H
theorem cr_max2 (hc : X.calm = true) : CallR X (.builtin "max") rMax2 := call_max2 hc
def rMin2 : List V → Hp → VK → Prop := fun xs H Q => ∃ i j, xs = [.int i, .int j] ∧ Q (.int (if j < i then j else i)) H
theorem cr_min2 (hc : X.calm = true) : CallR X (.builtin "min") rMin2 := call_min2 hc
def rLenS (K : PySem.W.Frag) : List V → Hp → VK → Prop := fun xs H Q => ∃ p ys, xs = [.ref p] ∧ (SqL K H p ys ∨ SqT K H p ys) ∧ Q (.int ys.length) H
theorem cr_lenS : CallR X (.builtin "len") (rLenS X.K) := call_len_seq
def rListS (K : PySem.W.Frag) : List V → Hp → VK → Prop := fun xs H Q => ∃ p ys, xs = [.ref p] ∧ (SqL K H p ys ∨ SqT K H p ys) ∧ ∀ l, H l = none → Q (.ref l) (upd H l (.lst ys))
theorem cr_listS : CallR X (.type "list") (rListS X.K) := call_list_of
def rTupS (K : PySem.W.Frag) : List V → Hp → VK → Prop := fun xs H Q => ∃ p ys, xs = [.ref p] ∧ ((SqL K H p ys ∧ ∀ l, H l = none → Q (.ref l) (upd H l (.tup ys))) ∨ (SqT K H p ys ∧ Q (.ref p) H))
theorem cr_tupS : CallR X (.type "tuple") (rTupS X.K) := call_tuple_of
def rIsN : R2 := fun x y H Q => y = .non ∧ Q (.bl (decide (x = .non))) H
def rNotN : R2 := fun x y H Q => y = .non ∧ Q (.bl (!decide (x = .non))) H
theorem op_isNN : OpR X (compareOp .Is) rIsN := op_isN
theorem op_notNN : OpR X (compareOp .IsNot) rNotN := op_notN
def tTru (K : PySem.W.Frag) (ta : TE) : TT := fun σ H Q => ta σ H fun x H' => ∃ k, TruV K x H' k ∧ Q k H'
theorem pt_tru {a : Expr} {ta : TE} (ha : PE X a ta) (he : ∀ whole, isTrue a X.env whole = (do let v ← whole; standAt a.pos; holding [v] (truthy v))) : PT X a (tTru X.K ta) := pt_truth ha he
end

/-! ### the readings, one step each -/
def nth (ns : List Int) (i : Int) : Int := ns.getD i.toNat 0
theorem nth_at {ns : List Int} {i : Int} (h0 : 0 ≤ i) (h1 : i < ns.length) : atI (ns.map V.int) i = some (.int (nth ns i)) := by
  have e : i = ((i.toNat : Nat) : Int) := (Int.toNat_of_nonneg h0).symm
  have h2 : i.toNat < ns.length := by omega
  have g : (ns.map V.int)[i.toNat]? = some (.int (nth ns i)) := by
    rw [List.getElem?_map, List.getElem?_eq_getElem h2]
    unfold nth
    rw [List.getD_eq_getElem?_getD, List.getElem?_eq_getElem h2]
    rfl
  exact at_of e g
theorem nth_nat (ns : List Int) (i : Nat) : nth ns (i : Int) = ns.getD i 0 := rfl
theorem nth_mem {ns : List Int} {i : Int} (h0 : 0 ≤ i) (h1 : i < ns.length) : nth ns i ∈ ns := by
  have h2 : i.toNat < ns.length := by omega
  unfold nth
  rw [List.getD_eq_getElem?_getD, List.getElem?_eq_getElem h2]
  exact List.getElem_mem h2

theorem Same.seqT {K : PySem.W.Frag} {H H' : Hp} {a : Addr} {xs : List V} (e : Same H H') (h : SqT K H a xs) : SqT K H' a xs := by
  rcases h with (h | ⟨o, h⟩) | h
  · exact .inl (.inl (e _ _ h))
  · exact .inl (.inr ⟨o, e _ _ h⟩)
  · exact .inr h
/-- a list (true) or a tuple (false) -/
def Sq (b : Bool) (K : PySem.W.Frag) (H : Hp) (a : Addr) (xs : List V) : Prop := match b with
  | true => SqL K H a xs
  | false => SqT K H a xs
theorem Sq.or {b : Bool} {K : PySem.W.Frag} {H : Hp} {a : Addr} {xs : List V} (h : Sq b K H a xs) : SqL K H a xs ∨ SqT K H a xs := by
  cases b
  · exact .inr h
  · exact .inl h
theorem Sq.lst {K : PySem.W.Frag} {H : Hp} {a : Addr} {xs : List V} (h : H a = some (.lst xs)) : Sq true K H a xs := SqL.of h
theorem Sq.tup {K : PySem.W.Frag} {H : Hp} {a : Addr} {xs : List V} (h : H a = some (.tup xs)) : Sq false K H a xs := SqT.of h
theorem Same.sq {b : Bool} {K : PySem.W.Frag} {H H' : Hp} {a : Addr} {xs : List V} (e : Same H H') (h : Sq b K H a xs) : Sq b K H' a xs := by
  cases b
  · exact e.seqT h
  · exact e.seq h
theorem Same.at {H H' : Hp} {a : Addr} {o : HO} (e : Same H H') (h : H a = some o) : H' a = some o := e a o h
theorem Same.new {H : Hp} {p : Addr} {o : HO} (h : H p = none) : Same H (upd H p o) := fun b x e => by
  rw [upd_ne (ne_of_none e h)]
  exact e
theorem Same.mut {H H' : Hp} {p : Addr} {o : HO} (e : Same H H') (h : H p = none) : Same H (upd H' p o) := fun a u ha => by
  rw [upd_ne (ne_of_none ha h)]
  exact e a u ha

section
variable {K : PySem.W.Frag} {σ σ' : St} {H : Hp} {v x y : V} {ta tb te : TE} {t u : TS} {D : Ends} {c d : TT} {Q : VK} {QB : Bool → Hp → Prop} {QA : List V → Hp → Prop} {r : R2}
theorem go_start (e : σ = σ') (h : t D σ' H) : t D σ H := by rw [e]; exact h
-- values
theorem w_var {i : Nat} (h : σ[i]? = some (some v)) (q : Q v H) : tVar i σ H Q := ⟨v, h, q⟩
theorem w_c (q : Q v H) : tC v σ H Q := q
theorem w_op (q : ta σ H fun x H1 => tb σ H1 fun y H2 => r x y H2 Q) : tOp r ta tb σ H Q := q
theorem w_un {r : V → Hp → VK → Prop} (q : ta σ H fun x H1 => r x H1 Q) : tUn r ta σ H Q := q
theorem w_rU {g : Int → V} {i : Int} (q : Q (g i) H) : rU g (.int i) H Q := ⟨i, rfl, q⟩
theorem w_I0 {g : Int → Int → V} {i j : Int} (q : Q (g i j) H) : rI0 g (.int i) (.int j) H Q := ⟨i, j, rfl, rfl, q⟩
theorem w_I {C : Int → Int → Prop} {g : Int → Int → V} {i j : Int} (hc : C i j) (q : Q (g i j) H) : rI C g (.int i) (.int j) H Q := ⟨i, j, rfl, rfl, hc, q⟩
theorem w_addI {i j : Int} (q : Q (.int (i + j)) H) : rAddG K (.int i) (.int j) H Q := .inl ⟨i, j, rfl, rfl, q⟩
theorem w_eqI {i j : Int} (q : Q (.bl (decide (i = j))) H) : rEqG K (.int i) (.int j) H Q := .inl ⟨rfl, by
  have e : decide (V.int i = V.int j) = decide (i = j) := by
    rw [dec_int]
    by_cases h : i = j
    · subst h; simp
    · rw [decide_eq_false h]; exact beq_eq_false_iff_ne.mpr h
  rw [e]; exact q⟩
theorem w_neI {i j : Int} (q : Q (.bl (!decide (i = j))) H) : rNeG K (.int i) (.int j) H Q := .inl ⟨rfl, by
  have e : decide (V.int i = V.int j) = decide (i = j) := by
    rw [dec_int]
    by_cases h : i = j
    · subst h; simp
    · rw [decide_eq_false h]; exact beq_eq_false_iff_ne.mpr h
  rw [e]; exact q⟩
theorem w_eqS (hs : scal x y = true) (q : Q (.bl (decide (x = y))) H) : rEqG K x y H Q := .inl ⟨hs, q⟩
theorem w_eqD {d e : PyData} (hd : Dp K H x d) (he : Dp K H y e) (sd : SeqAt.shaped d = true) (se : SeqAt.shaped e = true) (q : Q (.bl (PyData.eqv d e)) H) : rEqG K x y H Q := .inr ⟨d, e, hd, he, sd, se, q⟩
theorem w_neD {d e : PyData} (hd : Dp K H x d) (he : Dp K H y e) (sd : SeqAt.shaped d = true) (se : SeqAt.shaped e = true) (q : Q (.bl (!PyData.eqv d e)) H) : rNeG K x y H Q := .inr ⟨d, e, hd, he, sd, se, q⟩
theorem w_isN (q : Q (.bl (decide (x = .non))) H) : rIsN x .non H Q := ⟨rfl, q⟩
theorem w_isNn (q : Q (.bl true) H) : rIsN .non .non H Q := ⟨rfl, q⟩
theorem w_isNi {i : Int} (q : Q (.bl false) H) : rIsN (.int i) .non H Q := ⟨rfl, q⟩
theorem w_isNb {b : Bool} (q : Q (.bl false) H) : rIsN (.bl b) .non H Q := ⟨rfl, q⟩
theorem w_isNs {z : Str} (q : Q (.bl false) H) : rIsN (.str z) .non H Q := ⟨rfl, q⟩
theorem w_isNr {a : Addr} (q : Q (.bl false) H) : rIsN (.ref a) .non H Q := ⟨rfl, q⟩
theorem w_notNn (q : Q (.bl false) H) : rNotN .non .non H Q := ⟨rfl, q⟩
theorem w_notNi {i : Int} (q : Q (.bl true) H) : rNotN (.int i) .non H Q := ⟨rfl, q⟩
theorem w_notNb {b : Bool} (q : Q (.bl true) H) : rNotN (.bl b) .non H Q := ⟨rfl, q⟩
theorem w_notNs {z : Str} (q : Q (.bl true) H) : rNotN (.str z) .non H Q := ⟨rfl, q⟩
theorem w_notNr {a : Addr} (q : Q (.bl true) H) : rNotN (.ref a) .non H Q := ⟨rfl, q⟩
theorem w_notN (q : Q (.bl (!decide (x = .non))) H) : rNotN x .non H Q := ⟨rfl, q⟩
theorem w_cb {r : List V → Hp → VK → Prop} {ta : TA} (q : ta σ H fun vs H1 => r vs H1 Q) : tCB r ta σ H Q := q
theorem w_aNil (q : QA [] H) : tNil σ H QA := q
theorem w_aCons {tr : TA} (q : ta σ H fun x H1 => tr σ H1 fun xs H2 => QA (x :: xs) H2) : tCons ta tr σ H QA := q
theorem w_int1 {i : Int} (q : Q (.int i) H) : rInt1 [.int i] H Q := .inl ⟨i, rfl, q⟩
theorem w_int1b {k : Bool} (q : Q (.int (if k then 1 else 0)) H) : rInt1 [.bl k] H Q := .inr ⟨k, rfl, q⟩
theorem w_abs {i : Int} (q : Q (.int (if i < 0 then -i else i)) H) : rAbs [.int i] H Q := ⟨i, rfl, q⟩
theorem w_max2 {i j : Int} (q : Q (.int (if j > i then j else i)) H) : rMax2 [.int i, .int j] H Q := ⟨i, j, rfl, q⟩
theorem w_min2 {i j : Int} (q : Q (.int (if j < i then j else i)) H) : rMin2 [.int i, .int j] H Q := ⟨i, j, rfl, q⟩
theorem w_lenS {p : Addr} {ys : List V} {b : Bool} (h : Sq b K H p ys) (q : Q (.int ys.length) H) : rLenS K [.ref p] H Q := ⟨p, ys, rfl, h.or, q⟩
theorem w_lenI {p : Addr} {ns : List Int} {b : Bool} (h : Sq b K H p (ns.map V.int)) (q : Q (.int ns.length) H) : rLenS K [.ref p] H Q := ⟨p, _, rfl, h.or, by rw [List.length_map]; exact q⟩
theorem w_sumI {p : Addr} {ns : List Int} {b : Bool} (h : Sq b K H p (ns.map V.int)) (q : Q (.int ns.sum) H) : rSumS K [.ref p] H Q := ⟨p, ns, rfl, h.or, q⟩
theorem w_listS {p : Addr} {ys : List V} {b : Bool} (h : Sq b K H p ys) (q : ∀ l, H l = none → Q (.ref l) (upd H l (.lst ys))) : rListS K [.ref p] H Q := ⟨p, ys, rfl, h.or, q⟩
theorem w_tupL {p : Addr} {ys : List V} (h : Sq true K H p ys) (q : ∀ l, H l = none → Q (.ref l) (upd H l (.tup ys))) : rTupS K [.ref p] H Q := ⟨p, ys, rfl, .inl ⟨h, q⟩⟩
theorem w_tupT {p : Addr} {ys : List V} (h : Sq false K H p ys) (q : Q (.ref p) H) : rTupS K [.ref p] H Q := ⟨p, ys, rfl, .inr ⟨h, q⟩⟩
theorem w_ix {b : Bool} {p : Addr} {xs : List V} {i : Int} (h : Sq b K H p xs) (ha : atI xs i = some v) (q : Q v H) : rIx K (.ref p) (.int i) H Q := by
  rcases h.or with h | h
  · exact .inl ⟨p, xs, i, v, rfl, rfl, h, ha, q⟩
  · exact .inr (.inl ⟨p, xs, i, v, rfl, rfl, h, ha, q⟩)
theorem w_ixI {b : Bool} {p : Addr} {ns : List Int} {i : Int} (h : Sq b K H p (ns.map V.int)) (h0 : 0 ≤ i) (h1 : i < ns.length) (q : Q (.int (nth ns i)) H) : rIx K (.ref p) (.int i) H Q := w_ix h (nth_at h0 h1) q
theorem w_tupD {ta : TA} (q : ta σ H fun xs H1 => xs.length ≤ sizeLine ∧ ∀ p, H1 p = none → Q (.ref p) (upd H1 p (.tup xs))) : tTup ta σ H Q := q
theorem w_lstD {ta : TA} (q : ta σ H fun xs H1 => xs.length ≤ sizeLine ∧ ∀ p, H1 p = none → Q (.ref p) (upd H1 p (.lst xs))) : tLst ta σ H Q := q
theorem w_call {sp : Sp} {dvs : List V} {E : XK} {ta : TA} (q : ta σ H fun vs H1 => sp (vs ++ dvs) H1 Q E) : tCall sp dvs E ta σ H Q := q
theorem w_andV (q : ta σ H fun x H1 => ∃ c, x = .bl c ∧ if c = true then tb σ H1 Q else Q (.bl false) H1) : tAndV ta tb σ H Q := q
theorem w_orV (q : ta σ H fun x H1 => ∃ c, x = .bl c ∧ if c = true then Q (.bl true) H1 else tb σ H1 Q) : tOrV ta tb σ H Q := q
theorem w_notV (q : ta σ H fun x H1 => ∃ c, x = .bl c ∧ Q (.bl (!c)) H1) : tNotV ta σ H Q := q
-- methods of lists
theorem w_bm {T : String} {r : V → List V → Hp → VK → Prop} {to : TE} {ta : TA} (q : to σ H fun x H1 => tyV K T x H1 ∧ ta σ H1 fun xs H2 => r x xs H2 Q) : tBM K T r to ta σ H Q := q
theorem w_append {l : Addr} {xs : List V} (h : H l = some (.lst xs)) (hz : xs.length < sizeLine) (q : Q .non (upd H l (.lst (xs ++ [y])))) : rAppend (.ref l) [y] H Q := ⟨l, xs, y, rfl, rfl, h, hz, q⟩
theorem w_tyL {l : Addr} {xs : List V} {B : Prop} (h : Sq true K H l xs) (q : B) : tyV K "list" (.ref l) H ∧ B := ⟨.inl ⟨rfl, _, h⟩, q⟩
-- tests
theorem w_test (q : ta σ H fun x H' => ∃ k, x = .bl k ∧ QB k H') : tTest ta σ H QB := q
theorem w_tB (q : ta σ H fun x H' => ∃ k, x = .bl k ∧ QB k H') : tB ta σ H QB := q
theorem w_tru (q : ta σ H fun x H' => ∃ k, TruV K x H' k ∧ QB k H') : tTru K ta σ H QB := q
theorem w_exb {b : Bool} {F : Bool → Prop} (q : F b) : ∃ k, V.bl b = .bl k ∧ F k := ⟨b, rfl, q⟩
theorem w_truB {b : Bool} {F : Bool → Prop} (q : F b) : ∃ k, TruV K (.bl b) H k ∧ F k := ⟨b, rfl, q⟩
theorem w_truI {i : Int} {F : Bool → Prop} (q : F (i != 0)) : ∃ k, TruV K (.int i) H k ∧ F k := ⟨_, rfl, q⟩
theorem w_not (q : c σ H fun b H1 => QB (!b) H1) : tNot c σ H QB := q
theorem w_and (q : c σ H fun b H1 => if b = true then d σ H1 QB else QB false H1) : tAnd c d σ H QB := q
theorem w_or (q : c σ H fun b H1 => if b = true then QB true H1 else d σ H1 QB) : tOr c d σ H QB := q
theorem w_ifE (q : c σ H fun b H1 => if b = true then ta σ H1 Q else tb σ H1 Q) : tIf c ta tb σ H Q := q
theorem w_iteD {p A B : Prop} {_ : Decidable p} (h1 : p → A) (h2 : ¬ p → B) : if decide p = true then A else B := by
  by_cases h : p
  · rw [if_pos (decide_eq_true h)]; exact h1 h
  · rw [if_neg (by simp [h])]; exact h2 h
theorem w_iteN {p A B : Prop} {_ : Decidable p} (h1 : ¬ p → A) (h2 : p → B) : if (!decide p) = true then A else B := by
  by_cases h : p
  · rw [if_neg (by simp [h])]; exact h2 h
  · rw [if_pos (by simp [h])]; exact h1 h
theorem w_iteNT {A B : Prop} (h : B) : if (!true) = true then A else B := h
theorem w_iteNF {A B : Prop} (h : A) : if (!false) = true then A else B := h
theorem w_iteB {b : Bool} {A B : Prop} (h1 : b = true → A) (h2 : b = false → B) : if b = true then A else B := by
  cases b
  · exact h2 rfl
  · exact h1 rfl
-- statements
variable {f b' c' : St → Hp → Prop} {rt : VK}
theorem w_seq (q : t ⟨u ⟨f, rt, b', c'⟩, rt, b', c'⟩ σ H) : tSeq t u ⟨f, rt, b', c'⟩ σ H := q
theorem w_asg {g : TG} (q : te σ H fun x H1 => g x σ H1 f) : tAsg te g ⟨f, rt, b', c'⟩ σ H := q
theorem w_gName {i : Nat} {N : St → Hp → Prop} (q : N (σ.set i (some v)) H) : gName i v σ H N := q
theorem w_drop (q : te σ H fun _ H1 => f σ H1) : tDrop te ⟨f, rt, b', c'⟩ σ H := q
theorem w_ret (q : te σ H rt) : tRet te ⟨f, rt, b', c'⟩ σ H := q
theorem w_retN (q : rt .non H) : tRetN ⟨f, rt, b', c'⟩ σ H := q
theorem w_ifS (q : c σ H fun b H1 => if b = true then t D σ H1 else u D σ H1) : tIfS c t u D σ H := q
theorem w_next (q : f σ H) : tNext ⟨f, rt, b', c'⟩ σ H := q
theorem w_brk (q : b' σ H) : tBreak ⟨f, rt, b', c'⟩ σ H := q
theorem w_cont (q : c' σ H) : tCont ⟨f, rt, b', c'⟩ σ H := q
theorem w_nx {f b c : St → Hp → Prop} {r : VK} (q : f σ H) : Ends.nx ⟨f, r, b, c⟩ σ H := q
theorem w_rt {f b c : St → Hp → Prop} {r : VK} (q : r v H) : Ends.rt ⟨f, r, b, c⟩ v H := q
theorem w_bk {f b c : St → Hp → Prop} {r : VK} (q : b σ H) : Ends.bk ⟨f, r, b, c⟩ σ H := q
theorem w_ct {f b c : St → Hp → Prop} {r : VK} (q : c σ H) : Ends.ct ⟨f, r, b, c⟩ σ H := q
theorem w_augI {i : Nat} {g : Int → Int → Int} {z : Int} (hx : σ[i]? = some (some (.int z))) (q : te σ H fun y H1 => ipI g (.int z) y H1 fun z H2 => f (σ.set i (some z)) H2) : tAug i te (ipI g) ⟨f, rt, b', c'⟩ σ H := ⟨_, hx, q⟩
theorem w_ipI {f : Int → Int → Int} {i j : Int} (q : Q (.int (f i j)) H) : ipI f (.int i) (.int j) H Q := ⟨i, j, rfl, rfl, q⟩
-- slices
theorem w_sl {r : V → Option Int → Option Int → Hp → VK → Prop} {tl th : TO} (q : te σ H fun x H1 => tl σ H1 fun l H2 => th σ H2 fun u H3 => r x l u H3 Q) : tSl r te tl th σ H Q := q
theorem w_noPart {QO : Option Int → Hp → Prop} (q : QO none H) : tNoPart σ H QO := q
theorem w_part {QO : Option Int → Hp → Prop} (q : te σ H fun x H1 => ∃ i, x = .int i ∧ QO (some i) H1) : tPart te σ H QO := q
theorem w_exi {i : Int} {F : Int → Prop} (q : F i) : ∃ k, V.int i = .int k ∧ F k := ⟨i, rfl, q⟩
theorem w_slL {a : Addr} {xs : List V} {lo hi : Option Int} (h : Sq true K H a xs) (q : ∀ p, H p = none → Q (.ref p) (upd H p (.lst (cutV xs lo hi)))) : rSlG K (.ref a) lo hi H Q := .inl ⟨a, xs, rfl, h, q⟩
-- loops
end
/-- what a for asks of its walk J -/
def LoopOk (J : It) (g : TG) (tb : TS) (D : Ends) (σ : St) (H : Hp) : Prop := ∃ W : Nat → Nat → St → Hp → Prop, (∃ m, W 0 m σ H) ∧ ∀ i m σ H, W i m σ H →
  (J.stop i H ∧ D.nx σ H) ∨ (J.go i H ∧ ∃ N : St → Hp → Prop, (∀ σ' H', N σ' H' → ∃ m', m' < m ∧ W (i + 1) m' σ' H') ∧ ∀ x H', J.yld i H x H' → g x σ H' fun σ2 H2 => tb { D with nx := N, ct := N, bk := D.nx } σ2 H2)
section
variable {K : PySem.W.Frag} {σ σ' : St} {H : Hp} {t : TS} {D : Ends} {g : TG} {f b' c' : St → Hp → Prop} {rt : VK}
theorem w_for {wi : TI} (q : wi σ H fun J H1 => LoopOk J g t D σ H1) : tFor wi g t D σ H := q
theorem w_iRng1 {ta : TA} {R : It → Hp → Prop} (q : ta σ H fun vs H1 => ∃ j : Int, vs = [.int j] ∧ -(2 ^ 62) ≤ j ∧ j < 2 ^ 62 ∧ R (Itr 0 j.toNat) H1) : iRng1 ta σ H R := q
theorem w_iRng2 {ta : TA} {R : It → Hp → Prop} (q : ta σ H fun vs H1 => ∃ i j : Int, vs = [.int i, .int j] ∧ (-(2 ^ 62) ≤ i ∧ i < 2 ^ 62 ∧ -(2 ^ 62) ≤ j ∧ j < 2 ^ 62) ∧ R (Itr i (j - i).toNat) H1) : iRng2 ta σ H R := q
theorem l_it {J : It} {n : Nat} {G : Hp → Prop} {Y : Nat → Hp → V → Hp → Prop} (w : Walk J n G Y) (Pv : Nat → St → Hp → Prop) (h0 : Pv 0 σ H) (hG : ∀ i σ H, i ≤ n → Pv i σ H → G H)
    (hs : ∀ i x σ H H', i < n → Pv i σ H → Y i H x H' → g x σ H' fun σ2 H2 => t ⟨Pv (i + 1), rt, f, Pv (i + 1)⟩ σ2 H2) (hd : ∀ σ H, Pv n σ H → f σ H) : LoopOk J g t ⟨f, rt, b', c'⟩ σ H := for_it w Pv h0 hG hs hd
/-- for k in range(n) -/
theorem l_range {n : Int} {k : Nat} (Pv : Nat → St → Hp → Prop) (h1 : -(2 ^ 62) ≤ n) (h2 : n < 2 ^ 62) (h0 : Pv 0 σ H)
    (hs : ∀ (i : Nat) σ' H', (i : Int) < n → Pv i σ' H' → t ⟨Pv (i + 1), rt, f, Pv (i + 1)⟩ (σ'.set k (some (.int (i : Int)))) H') (hd : ∀ σ' H', Pv n.toNat σ' H' → f σ' H') :
    ∃ j : Int, [V.int n] = [.int j] ∧ -(2 ^ 62) ≤ j ∧ j < 2 ^ 62 ∧ LoopOk (Itr 0 j.toNat) (gName k) t ⟨f, rt, b', c'⟩ σ H := by
  refine ⟨n, rfl, h1, h2, l_it walk_range Pv h0 (fun _ _ _ _ _ => trivial) (fun i x σ' H1 H2 hi hp hy => ?_) hd⟩
  obtain ⟨e, ex⟩ := hy
  subst e ex
  show gName k (V.int (0 + (i : Int))) σ' _ _
  rw [Int.zero_add]
  exact hs i σ' _ (by omega) hp
theorem l_range2 {lo n : Int} {k : Nat} (Pv : Nat → St → Hp → Prop) (h1 : -(2 ^ 62) ≤ lo ∧ lo < 2 ^ 62 ∧ -(2 ^ 62) ≤ n ∧ n < 2 ^ 62) (h0 : Pv 0 σ H)
    (hs : ∀ (i : Nat) σ' H', lo + (i : Int) < n → Pv i σ' H' → t ⟨Pv (i + 1), rt, f, Pv (i + 1)⟩ (σ'.set k (some (.int (lo + (i : Int))))) H') (hd : ∀ σ' H', Pv (n - lo).toNat σ' H' → f σ' H') :
    ∃ i j : Int, [V.int lo, V.int n] = [.int i, .int j] ∧ (-(2 ^ 62) ≤ i ∧ i < 2 ^ 62 ∧ -(2 ^ 62) ≤ j ∧ j < 2 ^ 62) ∧ LoopOk (Itr i (j - i).toNat) (gName k) t ⟨f, rt, b', c'⟩ σ H := by
  refine ⟨lo, n, rfl, h1, l_it walk_range Pv h0 (fun _ _ _ _ _ => trivial) (fun i x σ' H1 H2 hi hp hy => ?_) hd⟩
  obtain ⟨e, ex⟩ := hy
  subst e ex
  exact hs i σ' _ (by omega) hp
end

/-! ### for x in (a list or a tuple), enumerate of either: what is walked is reckoned first -/
def iSeq (K : PySem.W.Frag) (tl : TE) : TI := fun σ H R => tl σ H fun x H1 => ∃ a, x = .ref a ∧ ((∃ xs, SqL K H1 a xs) ∧ R (Itl K a) H1 ∨ (∃ xs, SqT K H1 a xs) ∧ R (Itt K a) H1)
section
variable {X : Cx}
theorem pi_seqS {tg l : Expr} {tl : TE} (hl : PE X l tl) : PI X tg l (iSeq X.K tl) := by
  refine ⟨fun pins s σ H R I h => ?_⟩
  refine thn (hl.run pins s σ H _ I h) fun v s1 ⟨x, H1, I1, r1, q1⟩ => ?_
  obtain ⟨a, e, q1⟩ := q1
  subst e
  cases r1
  rcases q1 with ⟨⟨xs, hq⟩, q⟩ | ⟨⟨xs, hq⟩, q⟩
  · obtain ⟨its, rv, p, hz⟩ := I1.list hq
    refine wpAny_pyIter_list p.isList ?_
    refine ⟨s1.heap.objs.size, [s1.heap.objs.size], _, _, H1, rfl, I1.kept (t' := s1.toks) fun b o e => Heap.get?_push_of_some _ e, turn_list a _, ⟨_, Heap.get?_push_size _ rfl, rfl, rfl⟩, fun b hb => ?_, q⟩
    have e : b = s1.heap.objs.size := by simpa using hb
    subst e
    exact I1.fpOk (Nat.le_refl _) (I1.hok.fresh (Nat.le_refl _))
  · obtain ⟨its, rv, p, hz⟩ := I1.tuple hq
    refine wpAny_pyIter_tuple (show s1.heap.IsTuple a its.toArray from p) ?_
    refine ⟨s1.heap.objs.size, [s1.heap.objs.size], _, _, H1, rfl, I1.kept (t' := s1.toks) fun b o e => Heap.get?_push_of_some _ e, turn_tuple a _, ⟨_, Heap.get?_push_size _ rfl, rfl, rfl⟩, fun b hb => ?_, q⟩
    have e : b = s1.heap.objs.size := by simpa using hb
    subst e
    exact I1.fpOk (Nat.le_refl _) (I1.hok.fresh (Nat.le_refl _))
def iEnumS (K : PySem.W.Frag) (ta : TA) : TI := fun σ H R => ta σ H fun vs H1 => ∃ a, vs = [.ref a] ∧ ((∃ xs, SqL K H1 a xs) ∧ R (Ite K a) H1 ∨ (∃ xs, SqT K H1 a xs) ∧ R (IteT K a) H1)
theorem pi_enumS {e : Expr} {ta : TA} {p pos tpos : Pos} {elts : List Expr} {kk : Nat} (hg : Gl X "enumerate") (hm : X.mg "enumerate" = none) (ha : PA X [e] ta) (hs : starEach [e] X.env = [(false, eval e X.env)] := by rfl) :
    PI X (.Tuple elts kk tpos) (.Call (.Name "enumerate" p) [e] [] pos) (iEnumS X.K ta) := by
  refine ⟨fun pins s σ H R I h => ?_⟩
  refine Call_ (ld_blt I hg hm boot_enumerate (PyProof.Rows.callWith_type1 (thn (ha.run pos pins s σ H _ I h) fun us s1 ⟨vs, H1, I1, r1, q1⟩ => ?_) hs rfl))
  obtain ⟨a, ex, q1⟩ := q1
  subst ex
  cases r1 with
  | cons r rr =>
    cases rr
    cases r
    have fp : ∀ b ∈ [s1.heap.objs.size + 1, s1.heap.objs.size], FpOk X pins H1 b := fun b hb => by
      have e' : b = s1.heap.objs.size + 1 ∨ b = s1.heap.objs.size := by simpa using hb
      have hle : s1.heap.objs.size ≤ b := by
        rcases e' with z | z
        · rw [z]; exact Nat.le_add_right _ _
        · rw [z]; exact Nat.le_refl _
      exact I1.fpOk hle (I1.hok.fresh hle)
    rcases q1 with ⟨⟨xs, hq⟩, q⟩ | ⟨⟨xs, hq⟩, q⟩
    · obtain ⟨its, rv, p', hz⟩ := I1.list hq
      refine call_enumerate_list p'.isList fun h' he hit hsz hk => wpAny_pyIter_enum he ?_
      have I2 : Inv X pins σ H1 { s1 with heap := h' } := I1.kept (t' := s1.toks) hk
      exact ⟨s1.heap.objs.size + 1, [s1.heap.objs.size + 1, s1.heap.objs.size], _, _, H1, rfl, I2, turn_enum a (s1.heap.objs.size + 1) s1.heap.objs.size, ⟨⟨.none, he⟩, hit, Nat.succ_ne_self _⟩, fp, q⟩
    · obtain ⟨its, rv, p', hz⟩ := I1.tuple hq
      refine call_enumerate_tup p' fun h' he hit hsz hk => wpAny_pyIter_enum he ?_
      have I2 : Inv X pins σ H1 { s1 with heap := h' } := I1.kept (t' := s1.toks) hk
      exact ⟨s1.heap.objs.size + 1, [s1.heap.objs.size + 1, s1.heap.objs.size], _, _, H1, rfl, I2, turn_enumT a (s1.heap.objs.size + 1) s1.heap.objs.size, ⟨⟨.none, he⟩, hit, Nat.succ_ne_self _⟩, fp, q⟩
end
section
variable {K : PySem.W.Frag} {σ : St} {H : Hp} {t : TS} {D : Ends} {g : TG} {f b' c' : St → Hp → Prop} {rt : VK}
theorem w_iSeq {tl : TE} {R : It → Hp → Prop} (q : tl σ H fun x H1 => ∃ a, x = .ref a ∧ ((∃ xs, SqL K H1 a xs) ∧ R (Itl K a) H1 ∨ (∃ xs, SqT K H1 a xs) ∧ R (Itt K a) H1)) : iSeq K tl σ H R := q
theorem w_iEnumS {ta : TA} {R : It → Hp → Prop} (q : ta σ H fun vs H1 => ∃ a, vs = [.ref a] ∧ ((∃ xs, SqL K H1 a xs) ∧ R (Ite K a) H1 ∨ (∃ xs, SqT K H1 a xs) ∧ R (IteT K a) H1)) : iEnumS K ta σ H R := q
theorem l_seq {b : Bool} {a : Addr} (xs : List V) (Pv : Nat → St → Hp → Prop) (h : Sq b K H a xs) (h0 : Pv 0 σ H) (hG : ∀ i σ H, i ≤ xs.length → Pv i σ H → Sq b K H a xs)
    (hs : ∀ (i : Nat) x σ' H', i < xs.length → xs[i]? = some x → Pv i σ' H' → g x σ' H' fun σ2 H2 => t ⟨Pv (i + 1), rt, f, Pv (i + 1)⟩ σ2 H2) (hd : ∀ σ' H', Pv xs.length σ' H' → f σ' H') :
    ∃ a', V.ref a = .ref a' ∧ ((∃ xs, SqL K H a' xs) ∧ LoopOk (Itl K a') g t ⟨f, rt, b', c'⟩ σ H ∨ (∃ xs, SqT K H a' xs) ∧ LoopOk (Itt K a') g t ⟨f, rt, b', c'⟩ σ H) := by
  refine ⟨a, rfl, ?_⟩
  cases b with
  | true =>
    refine .inl ⟨⟨xs, h⟩, l_it (walk_list (xs := xs)) Pv h0 hG (fun i x σ' H1 H2 hi hp hy => ?_) hd⟩
    obtain ⟨e, ex⟩ := hy
    subst e
    exact hs i x σ' _ hi ex hp
  | false =>
    refine .inr ⟨⟨xs, h⟩, l_it (walk_tup (xs := xs)) Pv h0 hG (fun i x σ' H1 H2 hi hp hy => ?_) hd⟩
    obtain ⟨e, ex⟩ := hy
    subst e
    exact hs i x σ' _ hi ex hp
theorem l_enum {b : Bool} {a : Addr} (xs : List V) (Pv : Nat → St → Hp → Prop) (h : Sq b K H a xs) (h0 : Pv 0 σ H) (hG : ∀ i σ H, i ≤ xs.length → Pv i σ H → Sq b K H a xs)
    (hs : ∀ (i : Nat) x (T : Addr) σ' H', i < xs.length → xs[i]? = some x → Pv i σ' H' → H' T = none → g (.ref T) σ' (upd H' T (.tup [.int (i : Int), x])) fun σ2 H2 => t ⟨Pv (i + 1), rt, f, Pv (i + 1)⟩ σ2 H2) (hd : ∀ σ' H', Pv xs.length σ' H' → f σ' H') :
    ∃ a', [V.ref a] = [.ref a'] ∧ ((∃ xs, SqL K H a' xs) ∧ LoopOk (Ite K a') g t ⟨f, rt, b', c'⟩ σ H ∨ (∃ xs, SqT K H a' xs) ∧ LoopOk (IteT K a') g t ⟨f, rt, b', c'⟩ σ H) := by
  refine ⟨a, rfl, ?_⟩
  cases b with
  | true =>
    refine .inl ⟨⟨xs, h⟩, l_it (walk_enum (xs := xs)) Pv h0 hG (fun i x σ' H1 H2 hi hp hy => ?_) hd⟩
    obtain ⟨T, u, v, rfl, hT, e, hu, hv⟩ := hy
    cases hu
    subst e
    exact hs i v T σ' _ hi hv hp hT
  | false =>
    refine .inr ⟨⟨xs, h⟩, l_it (walk_enumT (xs := xs)) Pv h0 hG (fun i x σ' H1 H2 hi hp hy => ?_) hd⟩
    obtain ⟨T, u, v, rfl, hT, e, hu, hv⟩ := hy
    cases hu
    subst e
    exact hs i v T σ' _ hi hv hp hT
/-- a, b = (a new pair) -/
theorem w_pair {i j : Nat} {a : Addr} {x y : V} {N : St → Hp → Prop} (h : Sq false K H a [x, y]) (q : N ((σ.set i (some x)).set j (some y)) H) : gTup K 2 (gCons (gName i) (gCons (gName j) gNil)) (.ref a) σ H N :=
  ⟨a, [x, y], rfl, h, rfl, x, [y], rfl, y, [], rfl, rfl, q⟩
end
end L2

namespace L2
open PySem PySem.Spec PyProof.Rows
/-! ### stores into lists, cuts, isinstance, lists of numbers -/
section
variable {K : PySem.W.Frag} {σ : St} {H : Hp} {v x : V} {D : Ends} {t u : TS} {Q : VK} {ta tb : TE}
theorem w_gSub {r : TSet} {N : St → Hp → Prop} (q : ta σ H fun o H1 => tb σ H1 fun i H2 => r o i v H2 fun H3 => N σ H3) : gSub ta tb r v σ H N := q
theorem w_setI {p : Addr} {ns : List Int} {k z : Int} {N : Hp → Prop} (h : H p = some (.lst (ns.map V.int))) (h0 : 0 ≤ k) (h1 : k < ns.length) (q : N (upd H p (.lst ((ns.set k.toNat z).map V.int)))) : rSetL (.ref p) (.int k) (.int z) H N := by
  refine ⟨p, ns.map V.int, k, k.toNat, rfl, rfl, h, ?_, ?_⟩
  · unfold ixN
    rw [if_pos h0, if_pos (by rw [List.length_map]; omega)]
  · rw [← List.map_set]; exact q
theorem w_setL {p : Addr} {xs : List V} {k : Int} {N : Hp → Prop} (h : H p = some (.lst xs)) (h0 : 0 ≤ k) (h1 : k < xs.length) (q : N (upd H p (.lst (xs.set k.toNat v)))) : rSetL (.ref p) (.int k) v H N := by
  refine ⟨p, xs, k, k.toNat, rfl, rfl, h, ?_, q⟩
  unfold ixN
  rw [if_pos h0, if_pos (by omega)]
theorem w_cut {f b' c' : St → Hp → Prop} {rt : VK} (Mid : St → Hp → Prop) (h1 : t ⟨Mid, rt, b', c'⟩ σ H) (h2 : ∀ σ' H', Mid σ' H' → u ⟨f, rt, b', c'⟩ σ' H') : Evl.tCut t u ⟨f, rt, b', c'⟩ σ H := ⟨Mid, h1, h2⟩
theorem w_isi {tn cn : String} {b : Bool} (ht : TyX K H x (.type tn)) (hk : kitB tn cn = some b) (q : Q (.bl b) H) : rIsi K [x, .ty cn] H Q := ⟨x, .ty cn, _, _, b, rfl, .ty cn, ht, kit_ty hk, q⟩
theorem tyx_tup {a : Addr} {xs : List V} (h : SqT K H a xs) : TyX K H (.ref a) (.type "tuple") := by
  rcases h with (h | ⟨o, h⟩) | ⟨o, its, n, h1, h2, _⟩
  · exact .base (.tup h)
  · exact .fTuple h
  · exact .kTuple h1 h2
theorem tyx_lst {a : Addr} {xs : List V} (h : SqL K H a xs) : TyX K H (.ref a) (.type "list") := by
  rcases h with (h | ⟨o, h⟩) | ⟨o, its, n, h1, h2, _⟩
  · exact .base (.lst h)
  · exact .base (.frz h)
  · exact .kList h1 h2
end
theorem last_at_neg {ns : List Int} (h : 0 < ns.length) : ∃ z, z ∈ ns ∧ atI (ns.map V.int) (-1) = some (.int z) := by
  refine ⟨ns[ns.length - 1], List.getElem_mem _, ?_⟩
  unfold atI ixN
  rw [if_neg (by decide), if_pos (by rw [List.length_map]; omega)]
  show (ns.map V.int)[(-1 + (((ns.map V.int).length : Nat) : Int)).toNat]? = _
  rw [List.length_map, show (-1 + ((ns.length : Nat) : Int)).toNat = ns.length - 1 by omega, List.getElem?_map, List.getElem?_eq_getElem (by omega)]
  rfl
theorem sum_nonneg : ∀ {ns : List Int}, (∀ x ∈ ns, (0 : Int) ≤ x) → 0 ≤ ns.sum
  | [], _ => by simp
  | a :: r, h => by
    have h1 := h a (List.mem_cons_self ..)
    have h2 := sum_nonneg (ns := r) fun x hx => h x (List.mem_cons_of_mem _ hx)
    rw [List.sum_cons]; omega
theorem sum_ge_mem : ∀ {ns : List Int} {z : Int}, (∀ x ∈ ns, (0 : Int) ≤ x) → z ∈ ns → z ≤ ns.sum
  | a :: r, z, h, hz => by
    have h1 := h a (List.mem_cons_self ..)
    have h2 := sum_nonneg (ns := r) fun x hx => h x (List.mem_cons_of_mem _ hx)
    rw [List.sum_cons]
    rcases List.mem_cons.mp hz with e | e
    · subst e; omega
    · have := sum_ge_mem (ns := r) (fun x hx => h x (List.mem_cons_of_mem _ hx)) e
      omega
/-- the same data by _law_same: no deeper than n -/
def Sm (K : PySem.W.Frag) (H : Hp) : Nat → V → V → Prop
  | 0, x, y => x = y ∧ (x = .non ∨ (∃ b, x = .bl b) ∨ (∃ i, x = .int i) ∨ ∃ s, x = .str s)
  | n + 1, x, y => (x = y ∧ (x = .non ∨ (∃ b, x = .bl b) ∨ (∃ i, x = .int i) ∨ ∃ s, x = .str s)) ∨
    ∃ (a a' : Addr) (k : Bool) (xs ys : List V), x = .ref a ∧ y = .ref a' ∧ SqT K H a xs ∧ Sq k K H a' ys ∧ xs.length = ys.length ∧ ys.length ≤ 100000 ∧ ∀ (i : Nat) x' y', xs[i]? = some x' → ys[i]? = some y' → Sm K H n x' y'
theorem Sm.int {K : PySem.W.Frag} {H : Hp} {n : Nat} {i : Int} : Sm K H n (.int i) (.int i) := by
  cases n
  · exact ⟨rfl, .inr (.inr (.inl ⟨i, rfl⟩))⟩
  · exact .inl ⟨rfl, .inr (.inr (.inl ⟨i, rfl⟩))⟩
theorem Same.sm {K : PySem.W.Frag} {H H' : Hp} (e : Same H H') : ∀ {n : Nat} {x y : V}, Sm K H n x y → Sm K H' n x y
  | 0, _, _, h => h
  | n + 1, _, _, h => by
    rcases h with h | ⟨a, a', k, xs, ys, h1, h2, h3, h4, h5, hz, h6⟩
    · exact .inl h
    · exact .inr ⟨a, a', k, xs, ys, h1, h2, e.seqT h3, e.sq h4, h5, hz, fun i x' y' hx hy => Same.sm e (h6 i x' y' hx hy)⟩
end L2

namespace L2
open PySem PySem.Spec PyProof.Rows
/-! ### lists of numbers: cut, compared, looked into -/
section
variable {K : PySem.W.Frag} {H : Hp} {Q : VK}
theorem cutV_to (ns : List Int) {j : Int} (hj : 0 ≤ j) : cutV (ns.map V.int) none (some j) = (ns.take j.toNat).map V.int := by
  have e : j = ((j.toNat : Nat) : Int) := (Int.toNat_of_nonneg hj).symm
  unfold cutV
  rw [HT.sIx_none, e, HT.sIx_nat, List.drop_zero, Nat.sub_zero, Int.toNat_natCast, List.map_take, List.length_map]
  rcases Nat.le_total j.toNat ns.length with h | h
  · rw [Nat.min_eq_left h]
  · rw [Nat.min_eq_right h, List.take_of_length_le (by rw [List.length_map]; exact Nat.le_refl _), List.take_of_length_le (by rw [List.length_map]; exact h)]
theorem w_slTo {a : Addr} {ns : List Int} {j : Int} (h : Sq true K H a (ns.map V.int)) (hj : 0 ≤ j) (q : ∀ p, H p = none → Q (.ref p) (upd H p (.lst ((ns.take j.toNat).map V.int)))) : rSlG K (.ref a) none (some j) H Q :=
  .inl ⟨a, ns.map V.int, rfl, h, fun p hp => by rw [cutV_to ns hj]; exact q p hp⟩
theorem dpAll_ints {ns : List Int} : DpAll K H (ns.map V.int) (ns.map PyData.int) := by
  induction ns with
  | nil => exact .nil
  | cons a r ih => exact .cons (.int a) ih
theorem dp_ints {b : Bool} {a : Addr} {ns : List Int} (h : Sq b K H a (ns.map V.int)) : Dp K H (.ref a) (if b then .list (ns.map PyData.int) else .tuple (ns.map PyData.int)) := by
  cases b
  · exact .tup h dpAll_ints
  · exact .lst h dpAll_ints
theorem canLay_ints (ns : List Int) : PyData.canLayAll0 (ns.map PyData.int) = true := by
  induction ns with
  | nil => rfl
  | cons a r ih => simp only [List.map_cons, PyData.canLayAll0, PyData.canLay0, ih, Bool.and_self]
theorem depth_ints (ns : List Int) : PyData.depthAll (ns.map PyData.int) = 0 := by
  induction ns with
  | nil => rfl
  | cons a r ih => simp only [List.map_cons, PyData.depthAll, PyData.depth, ih, Nat.max_self]
theorem shaped_ints (ns : List Int) : SeqAt.shaped (.list (ns.map PyData.int)) = true := by
  simp [SeqAt.shaped, PyData.canLay0, PyData.depth, canLay_ints, depth_ints]
theorem shaped_intsT (ns : List Int) : SeqAt.shaped (.tuple (ns.map PyData.int)) = true := by
  simp [SeqAt.shaped, PyData.canLay0, PyData.depth, canLay_ints, depth_ints]
theorem eqvAll_ints (ns : List Int) : PyData.eqvAll (ns.map PyData.int) (ns.map PyData.int) = true := by
  induction ns with
  | nil => rfl
  | cons a r ih => simp only [List.map_cons, PyData.eqvAll, PyData.eqv, ih, beq_self_eq_true, Bool.and_self]
theorem w_neInts {a a' : Addr} {ns : List Int} (h : Sq true K H a (ns.map V.int)) (h' : Sq true K H a' (ns.map V.int)) (q : Q (.bl false) H) : rNeG K (.ref a) (.ref a') H Q :=
  w_neD (dp_ints h) (dp_ints h') (shaped_ints ns) (shaped_ints ns) (by
    have e : PyData.eqv (.list (ns.map PyData.int)) (.list (ns.map PyData.int)) = true := by simp only [PyData.eqv, eqvAll_ints]
    show Q (.bl (!PyData.eqv (.list (ns.map PyData.int)) (.list (ns.map PyData.int)))) H
    rw [e]; exact q)
theorem flat_ints (ns : List Int) : (ns.map V.int).all flatV = true := by
  induction ns with
  | nil => rfl
  | cons a r ih => simp only [List.map_cons, List.all_cons, ih, Bool.and_true]; rfl
theorem eqV_int (i j : Int) : eqV (.int i) (.int j) = (i == j) := rfl
theorem w_maxI {a : Addr} {ns : List Int} (h : Sq true K H a (ns.map V.int)) (hp : 0 < ns.length) (q : ∀ m, m ∈ ns → (∀ y, y ∈ ns → y ≤ m) → Q (.int m) H) : rMax K [.ref a] H Q := ⟨a, ns, rfl, h, hp, q⟩
theorem w_indexI {a : Addr} {ns : List Int} {z : Int} {j : Nat} (h : Sq true K H a (ns.map V.int)) (hj : j < ns.length) (e : nth ns (j : Nat) = z) (hno : ∀ m : Nat, m < j → nth ns (m : Nat) ≠ z) (q : Q (.int (j : Nat)) H) : rIndex K (.ref a) [.int z] H Q := by
  have hg : ∀ (m : Nat), m < ns.length → (ns.map V.int)[m]? = some (.int (nth ns (m : Nat))) := fun m hm => by
    rw [List.getElem?_map, List.getElem?_eq_getElem hm, nth_nat, List.getD_eq_getElem?_getD, List.getElem?_eq_getElem hm]
    rfl
  refine ⟨a, ns.map V.int, .int z, j, .int z, rfl, rfl, h, rfl, flat_ints ns, by rw [hg j hj, e], by rw [eqV_int]; exact beq_self_eq_true z, fun m z' hm hz => ?_, q⟩
  rw [hg m (by omega)] at hz
  cases hz
  rw [eqV_int]
  exact beq_eq_false_iff_ne.mpr (hno m hm)
end
end L2

namespace L2
open PySem PySem.Spec PyProof.Rows
/-! ### zip of two, each a list (true) or a tuple (false) -/
def ItOf (b : Bool) (h : Heap) (it a : Addr) (i : Nat) : Prop := match b with
  | true => h.IsListIter it a i
  | false => h.IsTupleIter it a i
def SrcOf (b : Bool) (h : Heap) (a : Addr) (items : Array Value) : Prop := match b with
  | true => h.IsList a items
  | false => h.IsTuple a items
theorem ItOf.at {b : Bool} {h h' : Heap} {it a : Addr} {i : Nat} (x : ItOf b h it a i) (k : ∀ o, h.get? it = some o → h'.get? it = some o) : ItOf b h' it a i := by
  cases b with
  | true => exact Heap.IsListIter.at (show h.IsListIter it a i from x) k
  | false => exact Heap.IsTupleIter.at (show h.IsTupleIter it a i from x) k
theorem ItOf.obj {b : Bool} {h : Heap} {it a : Addr} {i : Nat} (x : ItOf b h it a i) : ∃ o, h.get? it = some o ∧ ∀ v, o.data ≠ .cell v := by
  cases b with
  | true => obtain ⟨o, e, _, d⟩ := (show h.IsListIter it a i from x); exact ⟨o, e, fun v q => by rw [d] at q; cases q⟩
  | false => obtain ⟨o, e, _, d⟩ := (show h.IsTupleIter it a i from x); exact ⟨o, e, fun v q => by rw [d] at q; cases q⟩
theorem SrcOf.ne {b : Bool} {h : Heap} {a it : Addr} {items : Array Value} {b' : Bool} {a' : Addr} {i : Nat} (p : SrcOf b h a items) (q : ItOf b' h it a' i) : a ≠ it := by
  intro e
  subst e
  have hp : ∃ o, h.get? a = some o ∧ (o.cls = .type "list" ∨ o.cls = .type "tuple") := by
    cases b with
    | true => obtain ⟨o, ho, hc, _⟩ := (show h.IsList a items from p); exact ⟨o, ho, .inl hc⟩
    | false => obtain ⟨o, ho, hc, _⟩ := (show h.IsTuple a items from p); exact ⟨o, ho, .inr hc⟩
  have hq : ∃ o, h.get? a = some o ∧ (o.cls = .type "list_iterator" ∨ o.cls = .type "tuple_iterator") := by
    cases b' with
    | true => obtain ⟨o, ho, hc, _⟩ := (show h.IsListIter a a' i from q); exact ⟨o, ho, .inl hc⟩
    | false => obtain ⟨o, ho, hc, _⟩ := (show h.IsTupleIter a a' i from q); exact ⟨o, ho, .inr hc⟩
  obtain ⟨o, ho, hc⟩ := hp
  obtain ⟨o', ho', hc'⟩ := hq
  rw [ho] at ho'
  cases ho'
  rcases hc with hc | hc <;> rcases hc' with hc' | hc' <;> (rw [hc] at hc'; exact absurd hc' (by decide))
theorem Inv.src {X : Cx} {pins : List (Addr × Obj)} {σ : St} {H : Hp} {s : Shared} {b : Bool} {a : Addr} {xs : List V} (I : Inv X pins σ H s) (h : Sq b X.K H a xs) : ∃ its : List Value, Vals xs its ∧ SrcOf b s.heap a its.toArray ∧ a < s.heap.objs.size := by
  cases b with
  | true =>
    obtain ⟨its, rv, p, _⟩ := I.list h
    exact ⟨its, rv, p.isList, p.lt⟩
  | false =>
    obtain ⟨its, rv, p, _⟩ := I.tuple h
    obtain ⟨o, ho, _⟩ := id p
    exact ⟨its, rv, p, Heap.lt_size ho⟩
theorem Inv.sq_inj {X : Cx} {pins : List (Addr × Obj)} {σ : St} {H : Hp} {s : Shared} {b : Bool} {a : Addr} {xs ys : List V} (I : Inv X pins σ H s) (h : Sq b X.K H a xs) (h' : Sq b X.K H a ys) : xs = ys := by
  cases b with
  | true => exact I.list_inj h h'
  | false => exact I.tuple_inj h h'
theorem drawsOf {prog : Program} {w : World} {A : Around} (b : Bool) (hh : A.handled = none) (it a : Addr) (hne : a ≠ it) (items : Array Value) :
    Draws prog w A it [it, a] items.size (fun i v => items[i]? = some v) (fun i h => ItOf b h it a i ∧ SrcOf b h a items) := by
  cases b with
  | true => exact Draws.list hh it a hne items
  | false => exact Draws.tuple hh it a hne items
def ItzS (b1 b2 : Bool) (K : PySem.W.Frag) (a b : Addr) : It :=
  ⟨fun i H => ∃ (xs ys : List V) (x y : V), Sq b1 K H a xs ∧ Sq b2 K H b ys ∧ xs[i]? = some x ∧ ys[i]? = some y,
    fun i H v H' => ∃ T x y, v = .ref T ∧ H T = none ∧ H' = upd H T (.tup [x, y]) ∧ (∀ xs, Sq b1 K H a xs → xs[i]? = some x) ∧ ∀ ys, Sq b2 K H b ys → ys[i]? = some y,
    fun i H => ∃ xs ys : List V, Sq b1 K H a xs ∧ Sq b2 K H b ys ∧ i ≤ xs.length ∧ i ≤ ys.length ∧ (xs.length ≤ i ∨ ys.length ≤ i)⟩
theorem turn_zipS {P : Program} {w : World} {K : PySem.W.Frag} {elts : List Expr} {kk : Nat} {tpos : Pos} (b1 b2 : Bool) {a b z TI TO i1 i2 : Addr} (D : ZipSep2 z TI TO i1 i2 [i1, a] [i2, b]) :
    Turn P w K (.Tuple elts kk tpos) (ItzS b1 b2 K a b) [z, TI, TO, i1, i2] z (fun i h => IsZip h z TI TO .none ∧ IsPair h TI (.ref i1) (.ref i2) ∧ (∃ x y, IsPair h TO x y) ∧ ItOf b1 h i1 a i ∧ ItOf b2 h i2 b i) where
  mem := by simp
  obj := fun i h st c hc => by
    obtain ⟨hz, hTI, ⟨x, y, hTO⟩, h1, h2⟩ := st
    have e' : c = z ∨ c = TI ∨ c = TO ∨ c = i1 ∨ c = i2 := by simpa using hc
    rcases e' with q | q | q | q | q
    · rw [q]; exact ⟨_, hz, fun v q => nomatch q⟩
    · rw [q]; exact ⟨_, hTI, fun v q => nomatch q⟩
    · rw [q]; exact ⟨_, hTO, fun v q => nomatch q⟩
    · rw [q]; exact h1.obj
    · rw [q]; exact h2.obj
  keep := fun i h h' st k => by
    obtain ⟨hz, hTI, ⟨x, y, hTO⟩, h1, h2⟩ := st
    exact ⟨k z (by simp) _ hz, k TI (by simp) _ hTI, ⟨x, y, k TO (by simp) _ hTO⟩, h1.at fun o q => k i1 (by simp) o q, h2.at fun o q => k i2 (by simp) o q⟩
  item := by
    intro X hP hw hK hc i pins s σ H E I hf st hg
    subst hP hw hK
    obtain ⟨hz, hTI, ⟨x0, y0, hTO⟩, h1, h2⟩ := st
    obtain ⟨xs, ys, x, y, hqx, hqy, hx, hy⟩ := hg
    obtain ⟨its, rv, p, la⟩ := I.src hqx
    obtain ⟨its2, rv2, p2, lb⟩ := I.src hqy
    obtain ⟨u, hu, ru⟩ := rv.get hx
    obtain ⟨u2, hu2, ru2⟩ := rv2.get hy
    have hzl : z < s.heap.objs.size := Heap.lt_size hz
    have hl1 : i < its.toArray.size := by simpa using (List.getElem?_eq_some_iff.mp hu).1
    have hl2 : i < its2.toArray.size := by simpa using (List.getElem?_eq_some_iff.mp hu2).1
    have hin : X.A.in1.handled = none := I.ok.hd hc
    refine wpAny_pyNext_zipD2_item D (drawsOf b1 hin i1 a (p.ne h1) its.toArray) (drawsOf b2 hin i2 b (p2.ne h2) its2.toArray) hz hTI hTO ⟨h1, p⟩ ⟨h2, p2⟩ hl1 hl2 fun w1 w2 h' tk e1 e2 z' TO' st1 st2 hT hsz hk => ?_
    have ew1 : w1 = u := by
      have g1 : its.toArray[i]? = some w1 := e1
      have g2 : its.toArray[i]? = some u := by simpa using hu
      rw [g1] at g2
      exact Option.some.inj g2
    have ew2 : w2 = u2 := by
      have g1 : its2.toArray[i]? = some w2 := e2
      have g2 : its2.toArray[i]? = some u2 := by simpa using hu2
      rw [g1] at g2
      exact Option.some.inj g2
    subst ew1 ew2
    refine ⟨_, rfl, wpAny_letOwnedTupleGo_zip (s := { s with heap := h', toks := tk }) z' fun h'' z'' sb => ?_⟩
    have hT2 : h''.get? s.heap.objs.size = some { cls := .type "tuple", data := .seq #[w1, w2] } := (sb.2 _ (Nat.ne_of_gt hzl)).trans hT
    have new : ObjOk X.prog X.w (upd H s.heap.objs.size (.tup [x, y])) h'' s.heap.objs.size (.tup [x, y]) :=
      ⟨by show 2 ≤ sizeLine; decide, [w1, w2], .cons ru (.cons ru2 .nil), ⟨_, hT2, rfl, _, rfl⟩⟩
    have I1 : Inv X pins σ (upd H s.heap.objs.size (.tup [x, y])) { s with heap := h'', toks := tk } :=
      I.turnedNew (t' := tk) (ch := [z, TI, TO, i1, i2]) (fun c o hb q => (sb.2 c (fun q' => hb (by simp [q']))).trans (hk c o (fun q' => hb (by simp [q'])) (fun q' => hb (by simp [q'])) (fun q' => hb (by simp [q'])) (fun q' => hb (by simp [q'])) q)) hf (Nat.le_refl _) new
    refine ⟨.ref s.heap.objs.size, _, I1, rfl, ⟨_, x, y, rfl, I.hok.fresh (Nat.le_refl _), rfl, fun l hl => by rw [I.sq_inj hl hqx]; exact hx, fun l hl => by rw [I.sq_inj hl hqy]; exact hy⟩, ⟨z'', ?_, ⟨w1, w2, ?_⟩, ?_, ?_⟩, fun c hcm => ?_⟩
    · exact (sb.2 _ D.TIz).trans (hk _ _ D.TIz D.TITO D.TIi1 D.TIi2 hTI)
    · exact (sb.2 _ D.TOz).trans TO'
    · exact st1.1.at fun o q => (sb.2 _ (Ne.symm D.zi1)).trans q
    · exact st2.1.at fun o q => (sb.2 _ (Ne.symm D.zi2)).trans q
    · have hlt : c < s.heap.objs.size := by
        have e' : c = z ∨ c = TI ∨ c = TO ∨ c = i1 ∨ c = i2 := by simpa using hcm
        rcases e' with q | q | q | q | q
        · rw [q]; exact hzl
        · rw [q]; exact Heap.lt_size hTI
        · rw [q]; exact Heap.lt_size hTO
        · rw [q]; obtain ⟨_, e1, _⟩ := h1.obj; exact Heap.lt_size e1
        · rw [q]; obtain ⟨_, e2, _⟩ := h2.obj; exact Heap.lt_size e2
      rw [upd_ne (Nat.ne_of_lt hlt)]
      exact (hf c hcm).1
  done := by
    intro X hP hw hK hc i pins s σ H E I hf st hg
    subst hP hw hK
    obtain ⟨hz, hTI, ⟨x0, y0, hTO⟩, h1, h2⟩ := st
    obtain ⟨xs, ys, hqx, hqy, le1, le2, hend⟩ := hg
    obtain ⟨its, rv, p, _⟩ := I.src hqx
    obtain ⟨its2, rv2, p2, _⟩ := I.src hqy
    have l1 := rv.length
    have l2 := rv2.length
    have hin : X.A.in1.handled = none := I.ok.hd hc
    refine wpAny_pyNext_zipD2_end D (drawsOf b1 hin i1 a (p.ne h1) its.toArray) (drawsOf b2 hin i2 b (p2.ne h2) its2.toArray) hz hTI hTO ⟨h1, p⟩ ⟨h2, p2⟩ (by simp; omega) (by simp; omega) (by simp; omega) fun h' tk hk => ⟨rfl, ?_⟩
    exact I.turnedL (t' := tk) (ch := [z, TI, TO, i1, i2]) (fun c o hb q => hk c o (fun q' => hb (by simp [q'])) (fun q' => hb (by simp [q'])) (fun q' => hb (by simp [q'])) (fun q' => hb (by simp [q'])) q) hf
  self := fun A i s Q E st h => wpAny_pyIter_zip st.1 h
theorem begins_src (b : Bool) (a : Addr) (items : Array Value) : ∃ o, Begins (.ref a) o (fun h => SrcOf b h a items) ∧ ∀ (h : Heap) (it : Addr), h.get? it = some o → ItOf b h it a 0 := by
  cases b with
  | true => exact ⟨_, begins_list a items, fun h it e => ⟨_, e, rfl, rfl⟩⟩
  | false => exact ⟨_, begins_tuple a items, fun h it e => ⟨_, e, rfl, rfl⟩⟩
def iZipS (K : PySem.W.Frag) (ta : TA) : TI := fun σ H R => ta σ H fun vs H1 => ∃ a b, vs = [.ref a, .ref b] ∧ ∃ b1 b2 xs ys, Sq b1 K H1 a xs ∧ Sq b2 K H1 b ys ∧ R (ItzS b1 b2 K a b) H1
theorem pi_zipS {X : Cx} {e e2 : Expr} {ta : TA} {p pos tpos : Pos} {elts : List Expr} {kk : Nat} (hg : Gl X "zip") (hm : X.mg "zip" = none) (ha : PA X [e, e2] ta)
    (hs : starEach [e, e2] X.env = (false, eval e X.env) :: starEach [e2] X.env := by rfl) (hpl : (backTo pos (starEach [e2] X.env)).any (·.1) = false := by rfl) :
    PI X (.Tuple elts kk tpos) (.Call (.Name "zip" p) [e, e2] [] pos) (iZipS X.K ta) := by
  refine ⟨fun pins s σ H R I h => ?_⟩
  refine Call_ (ld_blt I hg hm PyProof.Rows.boot_zip (PyProof.Rows.callWith_type1 (thn (ha.run pos pins s σ H _ I h) fun us s1 ⟨vs, H1, I1, r1, q1⟩ => ?_) hs hpl))
  obtain ⟨a, b, ex, b1, b2, xs, ys, hqx, hqy, q⟩ := q1
  subst ex
  cases r1 with
  | cons r rr =>
    cases rr with
    | cons r' rr =>
      cases rr
      cases r
      cases r'
      obtain ⟨its, rv, p1, la⟩ := I1.src hqx
      obtain ⟨its2, rv2, p2, lb⟩ := I1.src hqy
      obtain ⟨o1, B1, k1⟩ := begins_src b1 a its.toArray
      obtain ⟨o2, B2, k2⟩ := begins_src b2 b its2.toArray
      refine zip_begins2 B1 B2 p1 p2 fun h' hz hTI hTO g1 g2 hsz hk => wpAny_pyIter_zip hz ?_
      have I2 : Inv X pins σ H1 { s1 with heap := h' } := I1.kept (t' := s1.toks) hk
      refine ⟨s1.heap.objs.size + 4, [s1.heap.objs.size + 4, s1.heap.objs.size + 2, s1.heap.objs.size + 3, s1.heap.objs.size, s1.heap.objs.size + 1], _, _, H1, rfl, I2,
        turn_zipS b1 b2 (zip_sep2 (N := s1.heap.objs.size) (fp1 := [a]) (fp2 := [b]) (fun c hc => by rw [List.mem_singleton.mp hc]; exact la) (fun c hc => by rw [List.mem_singleton.mp hc]; exact lb)), ⟨hz, hTI, ⟨_, _, hTO⟩, k1 _ _ g1, k2 _ _ g2⟩, fun c hcm => ?_, q⟩
      have e' : c = s1.heap.objs.size + 4 ∨ c = s1.heap.objs.size + 2 ∨ c = s1.heap.objs.size + 3 ∨ c = s1.heap.objs.size ∨ c = s1.heap.objs.size + 1 := by simpa using hcm
      have hle : s1.heap.objs.size ≤ c := by
        rcases e' with z | z | z | z | z
        · rw [z]; exact Nat.le_add_right _ _
        · rw [z]; exact Nat.le_add_right _ _
        · rw [z]; exact Nat.le_add_right _ _
        · rw [z]; exact Nat.le_refl _
        · rw [z]; exact Nat.le_add_right _ _
      exact I1.fpOk hle (I1.hok.fresh hle)
theorem walk_zipS {b1 b2 : Bool} {K : PySem.W.Frag} {a b : Addr} {xs ys : List V} (hn : xs.length = ys.length) : Walk (ItzS b1 b2 K a b) xs.length (fun H => Sq b1 K H a xs ∧ Sq b2 K H b ys) (YPair (fun i => xs[i]?) (fun i => ys[i]?)) := by
  refine ⟨fun i _ hi q => ?_, fun _ q => ⟨xs, ys, q.1, q.2, Nat.le_refl _, by omega, .inl (Nat.le_refl _)⟩, fun i H v H' _ q y => ?_⟩
  · exact ⟨xs, ys, xs[i], ys[i], q.1, q.2, by simp [hi], by simp [show i < ys.length by omega]⟩
  · obtain ⟨T, x, z, h1, h2, h3, h4, h5⟩ := y
    exact ⟨T, x, z, h1, h2, h3, h4 xs q.1, h5 ys q.2⟩
section
variable {K : PySem.W.Frag} {σ : St} {H : Hp} {t : TS} {D : Ends} {g : TG} {f bk ct : St → Hp → Prop} {rt : VK}
theorem w_iZipS {ta : TA} {R : It → Hp → Prop} (q : ta σ H fun vs H1 => ∃ a b, vs = [.ref a, .ref b] ∧ ∃ b1 b2 xs ys, Sq b1 K H1 a xs ∧ Sq b2 K H1 b ys ∧ R (ItzS b1 b2 K a b) H1) : iZipS K ta σ H R := q
theorem l_zip {b1 b2 : Bool} {a b : Addr} (xs ys : List V) (hn : xs.length = ys.length) (Pv : Nat → St → Hp → Prop) (hx : Sq b1 K H a xs) (hy : Sq b2 K H b ys) (h0 : Pv 0 σ H) (hG : ∀ i σ H, i ≤ xs.length → Pv i σ H → Sq b1 K H a xs ∧ Sq b2 K H b ys)
    (hs : ∀ (i : Nat) x y (T : Addr) σ' H', i < xs.length → xs[i]? = some x → ys[i]? = some y → Pv i σ' H' → H' T = none → g (.ref T) σ' (upd H' T (.tup [x, y])) fun σ2 H2 => t ⟨Pv (i + 1), rt, f, Pv (i + 1)⟩ σ2 H2) (hd : ∀ σ' H', Pv xs.length σ' H' → f σ' H') :
    ∃ a' b', [V.ref a, V.ref b] = [.ref a', .ref b'] ∧ ∃ b1 b2 xs ys, Sq b1 K H a' xs ∧ Sq b2 K H b' ys ∧ LoopOk (ItzS b1 b2 K a' b') g t ⟨f, rt, bk, ct⟩ σ H := by
  refine ⟨a, b, rfl, b1, b2, xs, ys, hx, hy, l_it (walk_zipS hn) Pv h0 hG (fun i x σ' H1 H2 hi hp hy => ?_) hd⟩
  obtain ⟨T, u, v, rfl, hT, e, hu, hv⟩ := hy
  subst e
  exact hs i u v T σ' _ hi hu hv hp hT
end

/-! ### list comprehensions -/
/-- what a comprehension asks of its walk J -/
def CompOk (J : It) (g : TG) (tt : TT) (te : TE) (vs : List Nat) (σ : St) (H1 : Hp) (Q : VK) : Prop := ∀ D, H1 D = none → ∃ W : Nat → Nat → Hp → Prop, (∃ m, W 0 m (upd H1 D (.lst []))) ∧ ∀ i m H, W i m H →
  (J.stop i H ∧ Q (.ref D) H) ∨ (J.go i H ∧ ∃ Nx : Hp → Prop, (∀ H', Nx H' → ∃ m', m' < m ∧ W (i + 1) m' H') ∧ ∀ x H', J.yld i H x H' → g x (wipe σ vs) H' fun σ2 H2 => wipe σ2 vs = wipe σ vs ∧ tt σ2 H2 fun b H3 =>
    if b = true then te σ2 H3 fun y H4 => ∃ acc, H4 D = some (.lst acc) ∧ acc.length < sizeLine ∧ Nx (upd H4 D (.lst (acc ++ [y]))) else Nx H3)
/-- the heap without what stands at D -/
def hide (D : Addr) (H : Hp) : Hp := fun b => if b = D then none else H b
theorem hide_at (D : Addr) (H : Hp) : hide D H D = none := if_pos rfl
theorem hide_ne {D b : Addr} {H : Hp} (h : b ≠ D) : hide D H b = H b := if_neg h
theorem hide_same (D : Addr) (H : Hp) : Same (hide D H) H := fun b o e => by
  by_cases h : b = D
  · subst h; rw [hide_at] at e; cases e
  · rw [hide_ne h] at e; exact e
theorem same_hide {D : Addr} {H H' : Hp} (e : Same H H') (h : H D = none) : Same H (hide D H') := fun b o q => by
  rw [hide_ne (ne_of_none q h)]
  exact e b o q
theorem hide_upd (D : Addr) (H : Hp) (o : HO) : hide D (upd H D o) = hide D H := by
  funext b
  by_cases h : b = D
  · subst h; rw [hide_at, hide_at]
  · rw [hide_ne h, hide_ne h, upd_ne h]
theorem hide_mono {D : Addr} {H H' : Hp} (e : Same H H') : Same (hide D H) (hide D H') := fun b o q => by
  by_cases h : b = D
  · subst h; rw [hide_at] at q; cases q
  · rw [hide_ne h] at q ⊢; exact e b o q
/-- no tuple, nothing frozen -/
def NTup : Option HO → Prop
  | some (.tup _) => False
  | some (.frz _ _) => False
  | _ => True
theorem NTup.lst {H : Hp} {D : Addr} {acc : List V} (h : H D = some (.lst acc)) : NTup (H D) := by rw [h]; trivial
theorem NTup.ins {H : Hp} {D C dx : Addr} {fs : List (Str × V)} (h : H D = some (.ins C dx fs)) : NTup (H D) := by rw [h]; trivial
theorem sq_hide {K : PySem.W.Frag} {D p : Addr} {H : Hp} {xs : List V} (hD : NTup (H D)) (h : Sq false K H p xs) : Sq false K (hide D H) p xs := by
  have h : SqT K H p xs := h
  rcases h with (h | ⟨o, h⟩) | h
  · exact .inl (.inl (by rw [hide_ne (fun e => by rw [← e, h] at hD; exact hD)]; exact h))
  · exact .inl (.inr ⟨o, by rw [hide_ne (fun e => by rw [← e, h] at hD; exact hD)]; exact h⟩)
  · exact .inr h
section
variable {K : PySem.W.Frag} {σ : St} {H : Hp} {tt : TT} {te : TE} {g : TG} {vs : List Nat} {Q : VK}
theorem w_lc {wi : TI} (q : wi σ H fun J H1 => CompOk J g tt te vs σ H1 Q) : tLc wi g tt te vs σ H Q := q
/-- every turn gives one item: R of the turn, the item and the heap without the new list -/
theorem l_comp {J : It} {n : Nat} {G : Hp → Prop} {Y : Nat → Hp → V → Hp → Prop} (w : Walk J n G Y) (hz : n < sizeLine) (R : Nat → V → Hp → Prop) (hR : ∀ i y H1 H2, Same H1 H2 → R i y H1 → R i y H2) (hG : ∀ H', Same H H' → G H')
    (hY : ∀ i x H1 H2, i < n → Y i H1 x H2 → Same H1 H2)
    (hs : ∀ i x H1 H2 D acc (N : VK), i < n → Same H H1 → H D = none → H1 D = some (.lst acc) → Y i H1 x H2 → Same H1 H2 → (∀ y H4, Same H2 H4 → R i y (hide D H4) → N y H4) → g x (wipe σ vs) H2 fun σ2 H3 => wipe σ2 vs = wipe σ vs ∧ te σ2 H3 N)
    (k : ∀ D H' ys, H D = none → Same H H' → H' D = some (.lst ys) → ys.length = n → (∀ (i : Nat) y, ys[i]? = some y → R i y (hide D H')) → Q (.ref D) H') : CompOk J g tYes te vs σ H Q := by
  intro D hD
  refine lc_it w (fun i H' => ∃ ys, H' D = some (.lst ys) ∧ ys.length = i ∧ Same H H' ∧ ∀ (j : Nat) y, ys[j]? = some y → R j y (hide D H')) ?_ (fun i H' _ ⟨ys, _, _, sm, _⟩ => hG H' sm) ?_ ?_
  · exact ⟨[], upd_same, rfl, Same.new hD, fun j y e => by simp at e⟩
  · rintro i x H1 H2 hi ⟨ys, e1, e2, sm, hr⟩ hy
    have s12 := hY i x H1 H2 hi hy
    refine hs i x H1 H2 D ys _ hi sm hD e1 hy s12 fun y H4 s24 r4 => ?_
    have e4 : H4 D = some (.lst ys) := s24 _ _ (s12 _ _ e1)
    refine ⟨ys, e4, by omega, ys ++ [y], upd_same, by rw [List.length_append, e2]; rfl, Same.mut ((sm.trans s12).trans s24) hD, fun j z ez => ?_⟩
    rw [hide_upd]
    by_cases hj : j < ys.length
    · rw [List.getElem?_append_left hj] at ez
      exact hR _ _ _ _ (hide_mono (s12.trans s24)) (hr j z ez)
    · have hlen := (List.getElem?_eq_some_iff.mp ez).1
      rw [List.length_append] at hlen
      have ej : j = ys.length := by
        have : j < ys.length + 1 := hlen
        omega
      subst ej
      rw [List.getElem?_append_right (Nat.le_refl _), Nat.sub_self] at ez
      have ey : y = z := Option.some.inj ez
      subst ey
      rw [e2]
      exact r4
  · rintro H' ⟨ys, e1, e2, sm, hr⟩
    exact k D H' ys hD sm e1 e2 hr
/-- over a list or a tuple -/
theorem l_compS {b : Bool} {a : Addr} {j : Nat} (xs : List V) (hx : Sq b K H a xs) (hz : xs.length < sizeLine) (R : Nat → V → Hp → Prop) (hR : ∀ i y H1 H2, Same H1 H2 → R i y H1 → R i y H2)
    (hw : ∀ x : V, wipe ((wipe σ vs).set j (some x)) vs = wipe σ vs)
    (hs : ∀ (i : Nat) x H1 D acc (N : VK), i < xs.length → xs[i]? = some x → Same H H1 → H D = none → H1 D = some (.lst acc) → (∀ y H4, Same H1 H4 → R i y (hide D H4) → N y H4) → te ((wipe σ vs).set j (some x)) H1 N)
    (k : ∀ D H' ys, H D = none → Same H H' → H' D = some (.lst ys) → ys.length = xs.length → (∀ (i : Nat) y, ys[i]? = some y → R i y (hide D H')) → Q (.ref D) H') :
    ∃ a', V.ref a = .ref a' ∧ ((∃ xs, SqL K H a' xs) ∧ CompOk (Itl K a') (gName j) tYes te vs σ H Q ∨ (∃ xs, SqT K H a' xs) ∧ CompOk (Itt K a') (gName j) tYes te vs σ H Q) := by
  refine ⟨a, rfl, ?_⟩
  cases b with
  | true =>
    refine .inl ⟨⟨xs, hx⟩, l_comp (walk_list (xs := xs)) hz R hR (fun H' sm => sm.sq (b := true) hx) (fun i x H1 H2 hi hy => by rw [hy.1]; exact Same.refl _) (fun i x H1 H2 D acc N hi sm hD e1 hy s12 hN => ?_) k⟩
    obtain ⟨e, ex⟩ := hy
    subst e
    exact ⟨hw x, hs i x _ D acc N hi ex sm hD e1 hN⟩
  | false =>
    refine .inr ⟨⟨xs, hx⟩, l_comp (walk_tup (xs := xs)) hz R hR (fun H' sm => sm.sq (b := false) hx) (fun i x H1 H2 hi hy => by rw [hy.1]; exact Same.refl _) (fun i x H1 H2 D acc N hi sm hD e1 hy s12 hN => ?_) k⟩
    obtain ⟨e, ex⟩ := hy
    subst e
    exact ⟨hw x, hs i x _ D acc N hi ex sm hD e1 hN⟩
/-- over range(n) -/
theorem l_compR {n : Int} {j : Nat} (h1 : -(2 ^ 62) ≤ n) (h2 : n < 16000000) (R : Nat → V → Hp → Prop) (hR : ∀ i y H1 H2, Same H1 H2 → R i y H1 → R i y H2)
    (hw : ∀ x : V, wipe ((wipe σ vs).set j (some x)) vs = wipe σ vs)
    (hs : ∀ (i : Nat) H1 D acc (N : VK), (i : Int) < n → Same H H1 → H D = none → H1 D = some (.lst acc) → (∀ y H4, Same H1 H4 → R i y (hide D H4) → N y H4) → te ((wipe σ vs).set j (some (.int (i : Int)))) H1 N)
    (k : ∀ D H' ys, H D = none → Same H H' → H' D = some (.lst ys) → ys.length = n.toNat → (∀ (i : Nat) y, ys[i]? = some y → R i y (hide D H')) → Q (.ref D) H') :
    ∃ j' : Int, [V.int n] = [.int j'] ∧ -(2 ^ 62) ≤ j' ∧ j' < 2 ^ 62 ∧ CompOk (Itr 0 j'.toNat) (gName j) tYes te vs σ H Q := by
  refine ⟨n, rfl, h1, by omega, l_comp (walk_range (lo := 0) (n := n.toNat)) (by rw [sizeLine_eq]; omega) R hR (fun _ _ => trivial) (fun i x H1 H2 hi hy => by rw [hy.1]; exact Same.refl _) (fun i x H1 H2 D acc N hi sm hD e1 hy s12 hN => ?_) k⟩
  obtain ⟨e, ex⟩ := hy
  subst e ex
  show wipe ((wipe σ vs).set j (some (.int (0 + (i : Int))))) vs = wipe σ vs ∧ te ((wipe σ vs).set j (some (.int (0 + (i : Int))))) _ N
  rw [Int.zero_add]
  exact ⟨hw _, hs i _ D acc N (by omega) sm hD e1 hN⟩
/-- over zip of two -/
theorem l_compZ {b1 b2 : Bool} {a b : Addr} {i1 i2 nn : Nat} (xs ys : List V) (hn : xs.length = ys.length) (hx : Sq b1 K H a xs) (hy : Sq b2 K H b ys) (hz : xs.length < sizeLine) (R : Nat → V → Hp → Prop) (hR : ∀ i y H1 H2, Same H1 H2 → R i y H1 → R i y H2) (hnn : nn = 2)
    (hw : ∀ x y : V, wipe (((wipe σ vs).set i1 (some x)).set i2 (some y)) vs = wipe σ vs)
    (hs : ∀ (i : Nat) x y H1 D acc (N : VK), i < xs.length → xs[i]? = some x → ys[i]? = some y → Same H H1 → H D = none → H1 D = some (.lst acc) → (∀ y H4, Same H1 H4 → R i y (hide D H4) → N y H4) → te (((wipe σ vs).set i1 (some x)).set i2 (some y)) H1 N)
    (k : ∀ D H' ys, H D = none → Same H H' → H' D = some (.lst ys) → ys.length = xs.length → (∀ (i : Nat) y, ys[i]? = some y → R i y (hide D H')) → Q (.ref D) H') :
    ∃ a' b', [V.ref a, V.ref b] = [.ref a', .ref b'] ∧ ∃ b1 b2 xs ys, Sq b1 K H a' xs ∧ Sq b2 K H b' ys ∧ CompOk (ItzS b1 b2 K a' b') (gTup K nn (gCons (gName i1) (gCons (gName i2) gNil))) tYes te vs σ H Q := by
  subst hnn
  refine ⟨a, b, rfl, b1, b2, xs, ys, hx, hy, l_comp (walk_zipS hn) hz R hR (fun H' sm => ⟨sm.sq hx, sm.sq hy⟩) (fun i x H1 H2 hi hy => ?_) (fun i x H1 H2 D acc N hi sm hD e1 hy s12 hN => ?_) k⟩
  · obtain ⟨T, u, v, rfl, hT, e, hu, hv⟩ := hy
    subst e
    exact Same.new hT
  · obtain ⟨T, u, v, rfl, hT, e, hu, hv⟩ := hy
    subst e
    exact w_pair (Sq.tup upd_same) ⟨hw u v, hs i u v _ D acc N hi hu hv (sm.trans s12) hD (s12 _ _ e1) hN⟩
end
end L2

namespace L2
open PySem PySem.Spec PyProof.Rows
/-! ### data over the heap: relations that new objects leave as they are -/
abbrev Rep (α : Type) := Hp → V → α → Prop
def RMono {α : Type} (R : Rep α) : Prop := ∀ H H' v x, Same H H' → R H v x → R H' v x
/-- no list in it: what stands at a list may be left out -/
def RTup {α : Type} (R : Rep α) : Prop := ∀ H D v x, NTup (H D) → R H v x → R (hide D H) v x
def RLst {α : Type} (R : Rep α) : Prop := ∀ H D v x ys, H D = some (.lst ys) → R H v x → R (hide D H) v x
theorem RTup.lst {α : Type} {R : Rep α} (h : RTup R) : RLst R := fun H D v x _ e r => h H D v x (NTup.lst e) r
def RInt : Rep Int := fun _ v i => v = .int i
/-- numbers in a list (true) or a tuple (false) -/
def RVec (b : Bool) (K : PySem.W.Frag) : Rep (List Int) := fun H v ns => ∃ a, v = .ref a ∧ Sq b K H a (ns.map V.int)
def RSeq (b : Bool) (K : PySem.W.Frag) {α : Type} (R : Rep α) : Rep (List α) := fun H v xs => ∃ a vs, v = .ref a ∧ Sq b K H a vs ∧ vs.length = xs.length ∧ ∀ (i : Nat) y x, vs[i]? = some y → xs[i]? = some x → R H y x
def RPair (K : PySem.W.Frag) {α β : Type} (R : Rep α) (S : Rep β) : Rep (α × β) := fun H v p => ∃ a x y, v = .ref a ∧ Sq false K H a [x, y] ∧ R H x p.1 ∧ S H y p.2
section
variable {K : PySem.W.Frag} {α β : Type} {R : Rep α} {S : Rep β} {b : Bool}
theorem RInt.mono : RMono RInt := fun _ _ _ _ _ h => h
theorem RInt.tup : RTup RInt := fun _ _ _ _ _ h => h
theorem RVec.mono : RMono (RVec b K) := fun _ _ _ _ s ⟨a, e, h⟩ => ⟨a, e, s.sq h⟩
theorem RVec.tup : RTup (RVec false K) := fun _ _ _ _ hD ⟨a, e, h⟩ => ⟨a, e, sq_hide hD h⟩
theorem RSeq.mono (hR : RMono R) : RMono (RSeq b K R) := fun _ _ _ _ s ⟨a, vs, e, h, hl, q⟩ => ⟨a, vs, e, s.sq h, hl, fun i y x h1 h2 => hR _ _ _ _ s (q i y x h1 h2)⟩
theorem RSeq.tup (hR : RTup R) : RTup (RSeq false K R) := fun _ _ _ _ hD ⟨a, vs, e, h, hl, q⟩ => ⟨a, vs, e, sq_hide hD h, hl, fun i y x h1 h2 => hR _ _ _ _ hD (q i y x h1 h2)⟩
theorem RPair.mono (hR : RMono R) (hS : RMono S) : RMono (RPair K R S) := fun _ _ _ _ s ⟨a, x, y, e, h, h1, h2⟩ => ⟨a, x, y, e, s.sq h, hR _ _ _ _ s h1, hS _ _ _ _ s h2⟩
theorem RPair.tup (hR : RTup R) (hS : RTup S) : RTup (RPair K R S) := fun _ _ _ _ hD ⟨a, x, y, e, h, h1, h2⟩ => ⟨a, x, y, e, sq_hide hD h, hR _ _ _ _ hD h1, hS _ _ _ _ hD h2⟩
theorem RSeq.get {H : Hp} {vs : List V} {xs : List α} (hl : vs.length = xs.length) (q : ∀ (i : Nat) y x, vs[i]? = some y → xs[i]? = some x → R H y x) {i : Nat} {x : α} (h : xs[i]? = some x) : ∃ y, vs[i]? = some y ∧ R H y x := by
  have hi := (List.getElem?_eq_some_iff.mp h).1
  exact ⟨vs[i], List.getElem?_eq_getElem (by omega), q i _ x (List.getElem?_eq_getElem (by omega)) h⟩
theorem vec_at {ns : List Int} {i : Nat} {y : V} (h : (ns.map V.int)[i]? = some y) : y = .int (nth ns (i : Nat)) ∧ i < ns.length := by
  have hi := (List.getElem?_eq_some_iff.mp h).1
  rw [List.length_map] at hi
  rw [List.getElem?_map, List.getElem?_eq_getElem hi] at h
  refine ⟨?_, hi⟩
  rw [← Option.some.inj h, nth_nat, List.getD_eq_getElem?_getD, List.getElem?_eq_getElem hi]
  rfl
theorem vec_get {ns : List Int} {i : Nat} (hi : i < ns.length) : (ns.map V.int)[i]? = some (.int (nth ns (i : Nat))) := by
  rw [List.getElem?_map, List.getElem?_eq_getElem hi, nth_nat, List.getD_eq_getElem?_getD, List.getElem?_eq_getElem hi]
  rfl
theorem vec_of {ys : List V} {ns : List Int} (hl : ys.length = ns.length) (h : ∀ (i : Nat) y, ys[i]? = some y → y = .int (nth ns (i : Nat))) : ys = ns.map V.int := by
  refine List.ext_getElem? fun i => ?_
  by_cases hi : i < ys.length
  · rw [vec_get (by omega), List.getElem?_eq_getElem hi]
    exact congrArg some (h i _ (List.getElem?_eq_getElem hi))
  · rw [List.getElem?_eq_none (by omega), List.getElem?_eq_none (by rw [List.length_map]; omega)]
end
section
variable {K : PySem.W.Frag} {σ : St} {H : Hp} {te : TE} {vs : List Nat} {Q : VK} {b b1 b2 : Bool} {a a1 a2 : Addr} {j : Nat}
/-- a comprehension that gives numbers -/
theorem c_ints (xs : List V) (hx : Sq b K H a xs) (ms : List Int) (hl : ms.length = xs.length) (hz : xs.length < sizeLine) (hw : ∀ x : V, wipe ((wipe σ vs).set j (some x)) vs = wipe σ vs)
    (hs : ∀ (i : Nat) x H1 (N : VK), i < xs.length → xs[i]? = some x → Same H H1 → (∀ H4, Same H1 H4 → N (.int (nth ms (i : Nat))) H4) → te ((wipe σ vs).set j (some x)) H1 N)
    (k : ∀ D H', H D = none → Same H H' → H' D = some (.lst (ms.map V.int)) → Q (.ref D) H') :
    ∃ a', V.ref a = .ref a' ∧ ((∃ xs, SqL K H a' xs) ∧ CompOk (Itl K a') (gName j) tYes te vs σ H Q ∨ (∃ xs, SqT K H a' xs) ∧ CompOk (Itt K a') (gName j) tYes te vs σ H Q) :=
  l_compS xs hx hz (fun i y _ => y = .int (nth ms (i : Nat))) (fun _ _ _ _ _ h => h) hw (fun i x H1 D acc N hi hxi sm hD e1 hN => hs i x H1 N hi hxi sm fun H4 s4 => hN _ H4 s4 rfl)
    (fun D H' ys hD sm e hly hr => k D H' hD sm (by rw [e, vec_of (by omega) hr]))
theorem c_intsR {n : Int} (h1 : -(2 ^ 62) ≤ n) (h2 : n < 16000000) (ms : List Int) (hl : ms.length = n.toNat) (hw : ∀ x : V, wipe ((wipe σ vs).set j (some x)) vs = wipe σ vs)
    (hs : ∀ (i : Nat) H1 (N : VK), (i : Int) < n → Same H H1 → (∀ H4, Same H1 H4 → N (.int (nth ms (i : Nat))) H4) → te ((wipe σ vs).set j (some (.int (i : Int)))) H1 N)
    (k : ∀ D H', H D = none → Same H H' → H' D = some (.lst (ms.map V.int)) → Q (.ref D) H') :
    ∃ j' : Int, [V.int n] = [.int j'] ∧ -(2 ^ 62) ≤ j' ∧ j' < 2 ^ 62 ∧ CompOk (Itr 0 j'.toNat) (gName j) tYes te vs σ H Q :=
  l_compR h1 h2 (fun i y _ => y = .int (nth ms (i : Nat))) (fun _ _ _ _ _ h => h) hw (fun i H1 D acc N hi sm hD e1 hN => hs i H1 N hi sm fun H4 s4 => hN _ H4 s4 rfl)
    (fun D H' ys hD sm e hly hr => k D H' hD sm (by rw [e, vec_of (by omega) hr]))
theorem c_intsZ {i1 i2 nn : Nat} (xs ys : List V) (hn : xs.length = ys.length) (hx : Sq b1 K H a1 xs) (hy : Sq b2 K H a2 ys) (ms : List Int) (hl : ms.length = xs.length) (hz : xs.length < sizeLine) (hnn : nn = 2)
    (hw : ∀ x y : V, wipe (((wipe σ vs).set i1 (some x)).set i2 (some y)) vs = wipe σ vs)
    (hs : ∀ (i : Nat) x y H1 (N : VK), i < xs.length → xs[i]? = some x → ys[i]? = some y → Same H H1 → (∀ H4, Same H1 H4 → N (.int (nth ms (i : Nat))) H4) → te (((wipe σ vs).set i1 (some x)).set i2 (some y)) H1 N)
    (k : ∀ D H', H D = none → Same H H' → H' D = some (.lst (ms.map V.int)) → Q (.ref D) H') :
    ∃ a' b', [V.ref a1, V.ref a2] = [.ref a', .ref b'] ∧ ∃ b1 b2 xs ys, Sq b1 K H a' xs ∧ Sq b2 K H b' ys ∧ CompOk (ItzS b1 b2 K a' b') (gTup K nn (gCons (gName i1) (gCons (gName i2) gNil))) tYes te vs σ H Q :=
  l_compZ xs ys hn hx hy hz (fun i y _ => y = .int (nth ms (i : Nat))) (fun _ _ _ _ _ h => h) hnn hw (fun i x y H1 D acc N hi hxi hyi sm hD e1 hN => hs i x y H1 N hi hxi hyi sm fun H4 s4 => hN _ H4 s4 rfl)
    (fun D H' zs hD sm e hly hr => k D H' hD sm (by rw [e, vec_of (by omega) hr]))
/-- a comprehension that gives data without the new list in them -/
theorem c_repL {α : Type} {R : Rep α} (hm : RMono R) (ht : RLst R) (xs : List V) (hx : Sq b K H a xs) (ds : List α) (hl : ds.length = xs.length) (hz : xs.length < sizeLine) (hw : ∀ x : V, wipe ((wipe σ vs).set j (some x)) vs = wipe σ vs)
    (hs : ∀ (i : Nat) x d H1 (N : VK), i < xs.length → xs[i]? = some x → ds[i]? = some d → Same H H1 → (∀ y H4, Same H1 H4 → R H4 y d → N y H4) → te ((wipe σ vs).set j (some x)) H1 N)
    (k : ∀ D H' ys, H D = none → Same H H' → H' D = some (.lst ys) → ys.length = ds.length → (∀ (i : Nat) y d, ys[i]? = some y → ds[i]? = some d → R H' y d) → Q (.ref D) H') :
    ∃ a', V.ref a = .ref a' ∧ ((∃ xs, SqL K H a' xs) ∧ CompOk (Itl K a') (gName j) tYes te vs σ H Q ∨ (∃ xs, SqT K H a' xs) ∧ CompOk (Itt K a') (gName j) tYes te vs σ H Q) :=
  l_compS xs hx hz (fun i y H' => ∀ d, ds[i]? = some d → R H' y d) (fun _ _ _ _ s h d hd => hm _ _ _ _ s (h d hd)) hw
    (fun i x H1 D acc N hi hxi sm hD e1 hN => by
      obtain ⟨d, hd⟩ : ∃ d, ds[i]? = some d := ⟨ds[i]'(by omega), List.getElem?_eq_getElem (by omega)⟩
      refine hs i x d H1 N hi hxi hd sm fun y H4 s4 r4 => hN y H4 s4 fun d' hd' => ?_
      rw [hd] at hd'
      cases hd'
      exact ht _ D _ _ _ (s4 _ _ e1) r4)
    (fun D H' ys hD sm e hly hr => k D H' ys hD sm e (by omega) fun i y d h1 h2 => hm _ _ _ _ (hide_same D H') (hr i y h1 d h2))
/-- a comprehension that gives data without lists -/
theorem c_rep {α : Type} {R : Rep α} (hm : RMono R) (ht : RTup R) (xs : List V) (hx : Sq b K H a xs) (ds : List α) (hl : ds.length = xs.length) (hz : xs.length < sizeLine) (hw : ∀ x : V, wipe ((wipe σ vs).set j (some x)) vs = wipe σ vs)
    (hs : ∀ (i : Nat) x d H1 (N : VK), i < xs.length → xs[i]? = some x → ds[i]? = some d → Same H H1 → (∀ y H4, Same H1 H4 → R H4 y d → N y H4) → te ((wipe σ vs).set j (some x)) H1 N)
    (k : ∀ D H' ys, H D = none → Same H H' → H' D = some (.lst ys) → ys.length = ds.length → (∀ (i : Nat) y d, ys[i]? = some y → ds[i]? = some d → R H' y d) → Q (.ref D) H') :
    ∃ a', V.ref a = .ref a' ∧ ((∃ xs, SqL K H a' xs) ∧ CompOk (Itl K a') (gName j) tYes te vs σ H Q ∨ (∃ xs, SqT K H a' xs) ∧ CompOk (Itt K a') (gName j) tYes te vs σ H Q) :=
  c_repL hm ht.lst xs hx ds hl hz hw hs k
theorem c_repR {α : Type} {R : Rep α} {n : Int} (hm : RMono R) (ht : RTup R) (h1 : -(2 ^ 62) ≤ n) (h2 : n < 16000000) (ds : List α) (hl : ds.length = n.toNat) (hw : ∀ x : V, wipe ((wipe σ vs).set j (some x)) vs = wipe σ vs)
    (hs : ∀ (i : Nat) d H1 (N : VK), (i : Int) < n → ds[i]? = some d → Same H H1 → (∀ y H4, Same H1 H4 → R H4 y d → N y H4) → te ((wipe σ vs).set j (some (.int (i : Int)))) H1 N)
    (k : ∀ D H' ys, H D = none → Same H H' → H' D = some (.lst ys) → ys.length = ds.length → (∀ (i : Nat) y d, ys[i]? = some y → ds[i]? = some d → R H' y d) → Q (.ref D) H') :
    ∃ j' : Int, [V.int n] = [.int j'] ∧ -(2 ^ 62) ≤ j' ∧ j' < 2 ^ 62 ∧ CompOk (Itr 0 j'.toNat) (gName j) tYes te vs σ H Q :=
  l_compR h1 h2 (fun i y H' => ∀ d, ds[i]? = some d → R H' y d) (fun _ _ _ _ s h d hd => hm _ _ _ _ s (h d hd)) hw
    (fun i H1 D acc N hi sm hD e1 hN => by
      obtain ⟨d, hd⟩ : ∃ d, ds[i]? = some d := ⟨ds[i]'(by omega), List.getElem?_eq_getElem (by omega)⟩
      refine hs i d H1 N hi hd sm fun y H4 s4 r4 => hN y H4 s4 fun d' hd' => ?_
      rw [hd] at hd'
      cases hd'
      exact ht _ D _ _ (NTup.lst (s4 _ _ e1)) r4)
    (fun D H' ys hD sm e hly hr => k D H' ys hD sm e (by omega) fun i y d h1 h2 => hm _ _ _ _ (hide_same D H') (hr i y h1 d h2))
/-- the same data twice -/
theorem RInt.sm {n : Nat} {x y : V} {i : Int} (h1 : RInt H x i) (h2 : RInt H y i) : Sm K H n x y := by
  cases h1
  cases h2
  exact Sm.int
theorem RSeq.sm {α : Type} {R S : Rep α} {n : Nat} {x y : V} {ds : List α} (hz : ds.length ≤ 100000) (hRS : ∀ x y d, d ∈ ds → R H x d → S H y d → Sm K H n x y) (h1 : RSeq false K R H x ds) (h2 : RSeq b K S H y ds) : Sm K H (n + 1) x y := by
  obtain ⟨a, xs, rfl, hx, hxl, hxr⟩ := h1
  obtain ⟨a', ys, rfl, hy, hyl, hyr⟩ := h2
  refine .inr ⟨a, a', b, xs, ys, rfl, rfl, hx, hy, by omega, by omega, fun i x' y' e1 e2 => ?_⟩
  have hi := (List.getElem?_eq_some_iff.mp e1).1
  have hd : ds[i]? = some (ds[i]'(by omega)) := List.getElem?_eq_getElem (by omega)
  exact hRS _ _ _ (List.mem_of_getElem? hd) (hxr i _ _ e1 hd) (hyr i _ _ e2 hd)
theorem RVec.sm {n : Nat} {x y : V} {ns : List Int} (hz : ns.length ≤ 100000) (h1 : RVec false K H x ns) (h2 : RVec b K H y ns) : Sm K H (n + 1) x y := by
  obtain ⟨a, rfl, hx⟩ := h1
  obtain ⟨a', rfl, hy⟩ := h2
  refine .inr ⟨a, a', b, _, _, rfl, rfl, hx, hy, rfl, by rw [List.length_map]; exact hz, fun i x' y' e1 e2 => ?_⟩
  rw [(vec_at e1).1, (vec_at e2).1]
  exact Sm.int
theorem RPair.sm {α β : Type} {R R' : Rep α} {S S' : Rep β} {n : Nat} {x y : V} {p : α × β} (hR : ∀ x y, R H x p.1 → R' H y p.1 → Sm K H n x y) (hS : ∀ x y, S H x p.2 → S' H y p.2 → Sm K H n x y) (h1 : RPair K R S H x p) (h2 : RPair K R' S' H y p) : Sm K H (n + 1) x y := by
  obtain ⟨a, x1, x2, rfl, hx, r1, r2⟩ := h1
  obtain ⟨a', y1, y2, rfl, hy, q1, q2⟩ := h2
  refine .inr ⟨a, a', false, _, _, rfl, rfl, hx, hy, rfl, by show 2 ≤ 100000; omega, fun i x' y' e1 e2 => ?_⟩
  match i, e1, e2 with
  | 0, e1, e2 => cases e1; cases e2; exact hR _ _ r1 q1
  | 1, e1, e2 => cases e1; cases e2; exact hS _ _ r2 q2
  | i + 2, e1, _ => simp at e1
end
/-! ### fields of objects -/
section
variable {K : PySem.W.Frag} {σ : St} {H : Hp} {v : V} {Q : VK} {ta : TE} {D : Ends}
theorem lk_here {f : Str} {v : V} {r : List (Str × V)} : List.lookup f ((f, v) :: r) = some v := by simp [List.lookup]
theorem lk_next {f g : Str} {v : V} {r : List (Str × V)} {o : Option V} (h : (f == g) = false) (q : List.lookup f r = o) : List.lookup f ((g, v) :: r) = o := by
  rw [List.lookup, h]; exact q
theorem pf_here {f : Str} {v u : V} {r : List (Str × V)} : putF f v ((f, u) :: r) = (f, v) :: r := by
  show (if f = f then _ else _) = _
  rw [if_pos rfl]
theorem pf_next {f g : Str} {v u : V} {r r' : List (Str × V)} (h : (g == f) = false) (q : putF f v r = r') : putF f v ((g, u) :: r) = (g, u) :: r' := by
  have hne : ¬ g = f := fun e => by rw [e] at h; simp at h
  show (if g = f then _ else (g, u) :: putF f v r) = _
  rw [if_neg hne, q]
theorem pf_nil {f : Str} {v : V} : putF f v [] = [(f, v)] := rfl
theorem w_fld {f : Str} (q : ta σ H fun x H1 => ∃ a C dx fs v, x = .ref a ∧ H1 a = some (.ins C dx fs) ∧ Cls K C ∧ NoAttr K C f ∧ fs.lookup f = some v ∧ Q v H1) : tFld K ta f σ H Q := q
theorem w_fldAt {f : Str} {p C dx : Addr} {fs : List (Str × V)} (h : H p = some (.ins C dx fs)) (c : Cls K C) (n : NoAttr K C f) (l : fs.lookup f = some v) {F : V → Prop} (q : F v) :
    ∃ a C dx fs v, V.ref p = .ref a ∧ H a = some (.ins C dx fs) ∧ Cls K C ∧ NoAttr K C f ∧ fs.lookup f = some v ∧ F v := ⟨p, C, dx, fs, v, rfl, h, c, n, l, q⟩
theorem w_sfld {f : Str} {tv : TE} {nx b' c' : St → Hp → Prop} {rt : VK} (q : tv σ H fun y H1 => ta σ H1 fun x H2 => ∃ a C dx fs, x = .ref a ∧ H2 a = some (.ins C dx fs) ∧ Cls K C ∧ NoAttr K C f ∧ fs.length < 1000 ∧ nx σ (upd H2 a (.ins C dx (putF f y fs)))) : sFld K ta tv f ⟨nx, rt, b', c'⟩ σ H := q
theorem w_sfldAt {f : Str} {p C dx : Addr} {fs fs' : List (Str × V)} {y : V} (h : H p = some (.ins C dx fs)) (c : Cls K C) (n : NoAttr K C f) (hl : fs.length < 1000) (e : putF f y fs = fs') {F : Hp → Prop} (q : F (upd H p (.ins C dx fs'))) :
    ∃ a C dx fs, V.ref p = .ref a ∧ H a = some (.ins C dx fs) ∧ Cls K C ∧ NoAttr K C f ∧ fs.length < 1000 ∧ F (upd H a (.ins C dx (putF f y fs))) := ⟨p, C, dx, fs, rfl, h, c, n, hl, by rw [e]; exact q⟩
theorem w_meth {C : Addr} {m : Str} {sp : Sp} {dvs : List V} {E : XK} {t : TA} (q : ta σ H fun x H1 => ∃ a dx fs, x = .ref a ∧ H1 a = some (.ins C dx fs) ∧ fs.lookup m = none ∧ t σ H1 fun vs H2 => sp (x :: (vs ++ dvs)) H2 Q E) : tMeth C m sp dvs E ta t σ H Q := q
theorem w_methAt {m : Str} {p C dx : Addr} {fs : List (Str × V)} {B : Prop} (h : H p = some (.ins C dx fs)) (l : fs.lookup m = none) (q : B) : ∃ a dx fs, V.ref p = .ref a ∧ H a = some (.ins C dx fs) ∧ fs.lookup m = none ∧ B := ⟨p, dx, fs, rfl, h, l, q⟩
theorem w_make {C : Addr} {sp : Sp} {dvs : List V} {E : XK} {t : TA} (q : t σ H fun vs H1 => ∀ x dx, H1 x = none → H1 dx = none → dx ≠ x → sp (.ref x :: (vs ++ dvs)) (upd (upd H1 dx (.own x)) x (.ins C dx [])) (fun v H2 => v = .non ∧ Q (.ref x) H2) E) : tMake C sp dvs E t σ H Q := q
theorem w_notInS {neg : Bool} {x : V} {p : Addr} {xs : List V} {b : Bool} (h : Sq b K H p xs) (hx : flatV x = true) (ha : xs.all flatV = true) (q : Q (.bl (if neg then !inV x xs else inV x xs)) H) : rIn K neg x (.ref p) H Q := ⟨p, xs, rfl, h.or, hx, ha, q⟩
theorem w_chain {r r' : R2} {tb tc : TE} (q : ta σ H fun x H1 => tb σ H1 fun y H2 => r x y H2 fun z H3 => ∃ k, z = .bl k ∧ if k = true then tc σ H3 fun w H4 => r' y w H4 Q else Q (.bl false) H3) : tChain r r' ta tb tc σ H Q := q
end
end L2

namespace L2
open PySem PySem.Spec PyProof.Rows
theorem RTup.upd {α : Type} {R : Rep α} (ht : RTup R) (hm : RMono R) {H : Hp} {D : Addr} {o : HO} {v : V} {x : α} (hD : NTup (H D)) (h : R H v x) : R (L2.upd H D o) v x := by
  have h1 := ht _ _ _ _ hD h
  rw [← hide_upd D H o] at h1
  exact hm _ _ _ _ (hide_same D _) h1
/-- a list that a loop fills: at D, its items relate to the data without the list itself -/
structure Filled {α : Type} (R : Rep α) (H0 H : Hp) (D : Addr) (ds : List α) : Prop where
  new : H0 D = none
  same : Same H0 H
  at_ : ∃ ys, H D = some (.lst ys) ∧ ys.length = ds.length ∧ ∀ (i : Nat) y d, ys[i]? = some y → ds[i]? = some d → R (hide D H) y d
theorem Filled.nil {α : Type} {R : Rep α} {H : Hp} {D : Addr} (h : H D = none) : Filled R H (L2.upd H D (.lst [])) D [] :=
  ⟨h, Same.new h, [], upd_same, rfl, fun i y d e => by simp at e⟩
theorem Filled.mono {α : Type} {R : Rep α} (hm : RMono R) {H0 H H' : Hp} {D : Addr} {ds : List α} (f : Filled R H0 H D ds) (s : Same H H') : Filled R H0 H' D ds := by
  obtain ⟨ys, e, hl, hr⟩ := f.at_
  exact ⟨f.new, f.same.trans s, ys, s _ _ e, hl, fun i y d h1 h2 => hm _ _ _ _ (hide_mono s) (hr i y d h1 h2)⟩
theorem Filled.push {α : Type} {R : Rep α} {H0 H : Hp} {D : Addr} {ds : List α} {d : α} {y : V} (f : Filled R H0 H D ds) (hy : R (hide D H) y d) : ∃ ys, H D = some (.lst ys) ∧ ys.length = ds.length ∧ Filled R H0 (L2.upd H D (.lst (ys ++ [y]))) D (ds ++ [d]) := by
  obtain ⟨ys, e, hl, hr⟩ := f.at_
  refine ⟨ys, e, hl, f.new, Same.mut f.same f.new, ys ++ [y], upd_same, by simp [hl], fun i y' d' h1 h2 => ?_⟩
  rw [hide_upd]
  by_cases hi : i < ys.length
  · rw [List.getElem?_append_left hi] at h1
    rw [List.getElem?_append_left (by omega)] at h2
    exact hr i y' d' h1 h2
  · have h3 := (List.getElem?_eq_some_iff.mp h1).1
    rw [List.length_append] at h3
    have ei : i = ys.length := by
      have : i < ys.length + 1 := h3
      omega
    subst ei
    rw [List.getElem?_append_right (Nat.le_refl _), Nat.sub_self] at h1
    rw [hl, List.getElem?_append_right (Nat.le_refl _), Nat.sub_self] at h2
    cases h1
    cases h2
    exact hy
theorem Filled.seq {α : Type} {R : Rep α} (hm : RMono R) {K : PySem.W.Frag} {H0 H : Hp} {D : Addr} {ds : List α} (f : Filled R H0 H D ds) : RSeq true K R H (.ref D) ds := by
  obtain ⟨ys, e, hl, hr⟩ := f.at_
  exact ⟨D, ys, rfl, Sq.lst e, hl, fun i y d h1 h2 => hm _ _ _ _ (hide_same D H) (hr i y d h1 h2)⟩
section
variable {K : PySem.W.Frag} {σ : St} {H : Hp} {N : St → Hp → Prop}
theorem w_pairG {i : Nat} {g : TG} {a : Addr} {x y : V} (h : Sq false K H a [x, y]) (q : g y (σ.set i (some x)) H N) : gTup K 2 (gCons (gName i) (gCons g gNil)) (.ref a) σ H N :=
  ⟨a, [x, y], rfl, h, rfl, x, [y], rfl, y, [], rfl, (by
    have : (fun σ' H' => gNil [] σ' H' N) = N := by
      funext σ' H'
      exact propext ⟨fun h => h.2, fun h => ⟨rfl, h⟩⟩
    rw [this]; exact q)⟩
theorem w_trip {i j k : Nat} {a : Addr} {x y z : V} (h : Sq false K H a [x, y, z]) (q : N (((σ.set i (some x)).set j (some y)).set k (some z)) H) : gTup K 3 (gCons (gName i) (gCons (gName j) (gCons (gName k) gNil))) (.ref a) σ H N :=
  ⟨a, [x, y, z], rfl, h, rfl, x, [y, z], rfl, y, [z], rfl, z, [], rfl, rfl, q⟩
theorem w_five {i1 i2 i3 i4 i5 : Nat} {a : Addr} {x1 x2 x3 x4 x5 : V} (h : Sq false K H a [x1, x2, x3, x4, x5]) (q : N (((((σ.set i1 (some x1)).set i2 (some x2)).set i3 (some x3)).set i4 (some x4)).set i5 (some x5)) H) :
    gTup K 5 (gCons (gName i1) (gCons (gName i2) (gCons (gName i3) (gCons (gName i4) (gCons (gName i5) gNil))))) (.ref a) σ H N :=
  ⟨a, [x1, x2, x3, x4, x5], rfl, h, rfl, x1, [x2, x3, x4, x5], rfl, x2, [x3, x4, x5], rfl, x3, [x4, x5], rfl, x4, [x5], rfl, x5, [], rfl, rfl, q⟩
theorem RSeq.five {α : Type} {R : Rep α} {v : V} {d0 d1 d2 d3 d4 : α} (h : RSeq false K R H v [d0, d1, d2, d3, d4]) : ∃ a x0 x1 x2 x3 x4, v = .ref a ∧ Sq false K H a [x0, x1, x2, x3, x4] ∧ R H x0 d0 ∧ R H x1 d1 ∧ R H x2 d2 ∧ R H x3 d3 ∧ R H x4 d4 := by
  obtain ⟨a, vs, e, hs, hl, hr⟩ := h
  match vs, hl with
  | [x0, x1, x2, x3, x4], _ => exact ⟨a, x0, x1, x2, x3, x4, e, hs, hr 0 _ _ rfl rfl, hr 1 _ _ rfl rfl, hr 2 _ _ rfl rfl, hr 3 _ _ rfl rfl, hr 4 _ _ rfl rfl⟩
theorem RSeq.lt {α : Type} {R : Rep α} {b : Bool} {v : V} {ds : List α} (h : RSeq b K R H v ds) : ∃ a vs, v = .ref a ∧ Sq b K H a vs ∧ vs.length = ds.length ∧ ∀ (i : Nat) y x, vs[i]? = some y → ds[i]? = some x → R H y x := h
/-- cuts of lists -/
theorem cutV_fromto {xs : List V} {a b : Nat} (h : a ≤ b) (hb : b ≤ xs.length) : cutV xs (some (a : Int)) (some (b : Int)) = (xs.drop a).take (b - a) := by
  unfold cutV
  rw [HT.sIx_nat, HT.sIx_nat, Nat.min_eq_left hb, Nat.min_eq_left (Nat.le_trans h hb)]
theorem cutV_upto {xs : List V} {b : Nat} (hb : b ≤ xs.length) : cutV xs none (some (b : Int)) = xs.take b := by
  unfold cutV
  rw [HT.sIx_none, HT.sIx_nat, Nat.min_eq_left hb, List.drop_zero, Nat.sub_zero]
theorem cutV_from {xs : List V} {a : Nat} (ha : a ≤ xs.length) : cutV xs (some (a : Int)) none = xs.drop a := by
  unfold cutV
  rw [HT.sIx_none, HT.sIx_nat, Nat.min_eq_left ha, List.take_of_length_le (by rw [List.length_drop]; omega)]
theorem w_slC {a : Addr} {xs ys : List V} {lo hi : Option Int} {Q : VK} (h : Sq true K H a xs) (e : cutV xs lo hi = ys) (q : ∀ p, H p = none → Q (.ref p) (L2.upd H p (.lst ys))) : rSlG K (.ref a) lo hi H Q :=
  .inl ⟨a, xs, rfl, h, fun p hp => by rw [e]; exact q p hp⟩
theorem cutV_int {xs : List V} {a b : Int} (h0 : 0 ≤ a) (h : a ≤ b) (hb : b ≤ xs.length) : cutV xs (some a) (some b) = (xs.drop a.toNat).take (b.toNat - a.toNat) := by
  obtain ⟨n, rfl⟩ := Int.eq_ofNat_of_zero_le h0
  obtain ⟨m, rfl⟩ := Int.eq_ofNat_of_zero_le (Int.le_trans h0 h)
  rw [Int.toNat_natCast, Int.toNat_natCast]
  exact cutV_fromto (by omega) (by omega)
theorem cutV_intTo {xs : List V} {b : Int} (h0 : 0 ≤ b) (hb : b ≤ xs.length) : cutV xs none (some b) = xs.take b.toNat := by
  obtain ⟨m, rfl⟩ := Int.eq_ofNat_of_zero_le h0
  rw [Int.toNat_natCast]
  exact cutV_upto (by omega)
/-- a cut of a list or of a tuple -/
theorem w_slAny {b : Bool} {a : Addr} {xs ys : List V} {lo hi : Option Int} {Q : VK} (h : Sq b K H a xs) (e : cutV xs lo hi = ys) (q : ∀ p H', Same H H' → Sq b K H' p ys → Q (.ref p) H') : rSlG K (.ref a) lo hi H Q := by
  cases b with
  | true => exact .inl ⟨a, xs, rfl, h, fun p hp => q _ _ (Same.new hp) (Sq.lst (by rw [upd_same, e]))⟩
  | false =>
    refine .inr ⟨a, xs, rfl, h, fun hw => ?_, fun _ p hp => q _ _ (Same.new hp) (Sq.tup (by rw [upd_same, e]))⟩
    have e2 : xs = ys := by
      rw [← e]
      unfold cutV
      rw [hw.1, hw.2, List.drop_zero, Nat.sub_zero, List.take_length]
    exact q _ _ (Same.refl _) (e2 ▸ h)
theorem rep_cut {α : Type} {R : Rep α} {vs : List V} {xs : List α} (hr : ∀ (i : Nat) y x, vs[i]? = some y → xs[i]? = some x → R H y x) (a n : Nat) : ∀ (i : Nat) y x, ((vs.drop a).take n)[i]? = some y → ((xs.drop a).take n)[i]? = some x → R H y x := fun i y x h1 h2 => by
  rw [List.getElem?_take] at h1 h2
  split at h1
  · rw [if_pos (by assumption), List.getElem?_drop] at h2
    rw [List.getElem?_drop] at h1
    exact hr _ _ _ h1 h2
  · cases h1
theorem rep_to {α : Type} {R : Rep α} {vs : List V} {xs : List α} (hr : ∀ (i : Nat) y x, vs[i]? = some y → xs[i]? = some x → R H y x) (n : Nat) : ∀ (i : Nat) y x, (vs.take n)[i]? = some y → (xs.take n)[i]? = some x → R H y x := rep_cut hr 0 n
/-- adding two lists -/
theorem w_catLL {l b : Addr} {xs zs : List V} {Q : VK} (h1 : H l = some (.lst xs)) (h2 : H b = some (.lst zs)) (hz : xs.length + zs.length ≤ sizeLine) (q : ∀ p, H p = none → Q (.ref p) (L2.upd H p (.lst (xs ++ zs)))) : rAddG K (.ref l) (.ref b) H Q :=
  .inr (.inr ⟨l, b, xs, zs, rfl, rfl, h1, h2, hz, q⟩)
end
end L2

namespace L2
open PySem PySem.Spec PyProof.Rows
/-! ### data without lists, equal to itself -/
mutual
theorem eqv_refl : ∀ d : PyData, d.canLay0 = true → PyData.eqv d d = true
  | .none, _ => by simp only [PyData.eqv]
  | .bool b, _ => by simp only [PyData.eqv, beq_self_eq_true]
  | .int i, _ => by simp only [PyData.eqv, beq_self_eq_true]
  | .str x, _ => by simp only [PyData.eqv, beq_self_eq_true]
  | .list xs, h => by
    simp only [PyData.eqv]
    exact eqvAll_refl xs (by simpa only [PyData.canLay0] using h)
  | .tuple xs, h => by
    simp only [PyData.eqv]
    exact eqvAll_refl xs (by simpa only [PyData.canLay0] using h)
  | .dict _, h => by simp only [PyData.canLay0] at h; cases h
theorem eqvAll_refl : ∀ ds : List PyData, PyData.canLayAll0 ds = true → PyData.eqvAll ds ds = true
  | [], _ => by simp only [PyData.eqvAll]
  | d :: r, h => by
    simp only [PyData.canLayAll0, Bool.and_eq_true] at h
    simp only [PyData.eqvAll, eqv_refl d h.1, eqvAll_refl r h.2, Bool.and_self]
end
/-- data of a kind: as PyData, laid, no deeper than n -/
structure Dat {α : Type} (K : PySem.W.Frag) (R : Rep α) (f : α → PyData) (n : Nat) : Prop where
  dp : ∀ H v d, R H v d → Dp K H v (f d)
  lay : ∀ d, (f d).canLay0 = true
  deep : ∀ d, (f d).depth ≤ n
theorem canLayAll_map {α : Type} {f : α → PyData} (h : ∀ d, (f d).canLay0 = true) : ∀ ds : List α, PyData.canLayAll0 (ds.map f) = true
  | [] => by simp only [List.map_nil, PyData.canLayAll0]
  | d :: r => by simp only [List.map_cons, PyData.canLayAll0, h d, canLayAll_map h r, Bool.and_self]
theorem depthAll_map {α : Type} {f : α → PyData} {n : Nat} (h : ∀ d, (f d).depth ≤ n) : ∀ ds : List α, PyData.depthAll (ds.map f) ≤ n
  | [] => by simp only [List.map_nil, PyData.depthAll]; exact Nat.zero_le _
  | d :: r => by
    simp only [List.map_cons, PyData.depthAll]
    exact Nat.max_le.mpr ⟨h d, depthAll_map h r⟩
theorem dpAll_map {α : Type} {K : PySem.W.Frag} {R : Rep α} {f : α → PyData} {H : Hp} (h : ∀ v d, R H v d → Dp K H v (f d)) : ∀ {vs : List V} {ds : List α}, vs.length = ds.length → (∀ (i : Nat) y x, vs[i]? = some y → ds[i]? = some x → R H y x) → DpAll K H vs (ds.map f)
  | [], [], _, _ => .nil
  | v :: vs, d :: ds, hl, hr => .cons (h v d (hr 0 v d rfl rfl)) (dpAll_map h (by simpa using hl) fun i y x h1 h2 => hr (i + 1) y x (by simpa using h1) (by simpa using h2))
theorem Dat.seq {α : Type} {K : PySem.W.Frag} {R : Rep α} {f : α → PyData} {n : Nat} (h : Dat K R f n) : Dat K (RSeq false K R) (fun ds => .tuple (ds.map f)) (n + 1) where
  dp := fun H v ds ⟨a, vs, e, hs, hl, hr⟩ => by subst e; exact .tup hs (dpAll_map (h.dp H) hl hr)
  lay := fun ds => by simp only [PyData.canLay0]; exact canLayAll_map h.lay ds
  deep := fun ds => by simp only [PyData.depth]; exact Nat.succ_le_succ (depthAll_map h.deep ds)
theorem Dat.vec {K : PySem.W.Frag} : Dat K (RVec false K) (fun ns => .tuple (ns.map PyData.int)) 1 where
  dp := fun H v ns ⟨a, e, hs⟩ => by subst e; exact .tup hs dpAll_ints
  lay := fun ns => by simp only [PyData.canLay0]; exact canLay_ints ns
  deep := fun ns => by simp only [PyData.depth, depth_ints]; exact Nat.le_refl _
theorem Dat.pair {α β : Type} {K : PySem.W.Frag} {R : Rep α} {S : Rep β} {f : α → PyData} {g : β → PyData} {n : Nat} (h : Dat K R f n) (h' : Dat K S g n) : Dat K (RPair K R S) (fun p => .tuple [f p.1, g p.2]) (n + 1) where
  dp := fun H v p ⟨a, x, y, e, hs, h1, h2⟩ => by subst e; exact .tup hs (.cons (h.dp _ _ _ h1) (.cons (h'.dp _ _ _ h2) .nil))
  lay := fun p => by simp only [PyData.canLay0, PyData.canLayAll0, h.lay, h'.lay, Bool.and_self]
  deep := fun p => by
    simp only [PyData.depth, PyData.depthAll]
    exact Nat.succ_le_succ (Nat.max_le.mpr ⟨h.deep _, Nat.max_le.mpr ⟨h'.deep _, Nat.zero_le _⟩⟩)
theorem Dat.up {α : Type} {K : PySem.W.Frag} {R : Rep α} {f : α → PyData} {n m : Nat} (h : Dat K R f n) (hm : n ≤ m) : Dat K R f m := ⟨h.dp, h.lay, fun d => Nat.le_trans (h.deep d) hm⟩
theorem Dat.shaped {α : Type} {K : PySem.W.Frag} {R : Rep α} {f : α → PyData} {n : Nat} (h : Dat K R f n) (hn : n ≤ 64) (d : α) : SeqAt.shaped (f d) = true := by
  unfold SeqAt.shaped
  rw [h.lay, decide_eq_true (Nat.le_trans (h.deep d) hn)]
  rfl
theorem w_neSame {α : Type} {K : PySem.W.Frag} {H : Hp} {Q : VK} {R : Rep α} {f : α → PyData} {n : Nat} (h : Dat K R f n) (hn : n ≤ 64) {x y : V} {d : α} (hx : R H x d) (hy : R H y d) (q : Q (.bl false) H) : rNeG K x y H Q :=
  w_neD (h.dp _ _ _ hx) (h.dp _ _ _ hy) (h.shaped hn d) (h.shaped hn d) (by rw [eqv_refl _ (h.lay d)]; exact q)
theorem w_eqSame {α : Type} {K : PySem.W.Frag} {H : Hp} {Q : VK} {R : Rep α} {f : α → PyData} {n : Nat} (h : Dat K R f n) (hn : n ≤ 64) {x y : V} {d : α} (hx : R H x d) (hy : R H y d) (q : Q (.bl true) H) : rEqG K x y H Q :=
  w_eqD (h.dp _ _ _ hx) (h.dp _ _ _ hy) (h.shaped hn d) (h.shaped hn d) (by rw [eqv_refl _ (h.lay d)]; exact q)
theorem sIx_neg (n d : Nat) : HT.sIx n d (some (-1)) = n - 1 := by
  show (if (-1 : Int) < 0 then ((-1 : Int) + (n : Int)).toNat else min (-1 : Int).toNat n) = n - 1
  rw [if_pos (by decide)]
  omega
theorem cutV_neg {xs : List V} : cutV xs none (some (-1)) = xs.take (xs.length - 1) := by
  unfold cutV
  rw [HT.sIx_none, sIx_neg, List.drop_zero, Nat.sub_zero]
theorem cutV_negFrom {xs : List V} : cutV xs (some (-1)) none = xs.drop (xs.length - 1) := by
  unfold cutV
  rw [HT.sIx_none, sIx_neg, List.take_of_length_le (by rw [List.length_drop]; omega)]
end L2

namespace L2
open PySem PySem.Spec PyProof.Rows
/-! ### the rules that name the written part, K said (within a comprehension's block it is told by rfl) -/
section
variable {X : Cx} {K : PySem.W.Frag} {a b : Expr} {ta tb : TE} {pos : Pos}
theorem k_addG (h : X.K = K) : OpR X (binaryOp .Add) (rAddG K) := h ▸ op_addG
theorem k_eqG (h : X.K = K) (hu : X.A.units + 64 < cLine) : OpR X (compareOp .Eq) (rEqG K) := h ▸ op_eqG hu
theorem k_neG (h : X.K = K) (hu : X.A.units + 64 < cLine) : OpR X (compareOp .NotEq) (rNeG K) := h ▸ op_neG hu
theorem k_inS (h : X.K = K) : OpR X (compareOp .In) (rIn K false) := h ▸ op_in_seq
theorem k_notInS (h : X.K = K) : OpR X (compareOp .NotIn) (rIn K true) := h ▸ op_notIn_seq
theorem k_slG (h : X.K = K) : SlR X (rSlG K) := h ▸ sl_seqG
theorem k_ix (h : X.K = K) : IxR X (rIx K) := h ▸ ix_seq
theorem k_sumS (h : X.K = K) (hc : X.calm = true) : CallR X (.builtin "sum") (rSumS K) := h ▸ cr_sumS hc
theorem k_lenS (h : X.K = K) : CallR X (.builtin "len") (rLenS K) := h ▸ cr_lenS
theorem k_listS (h : X.K = K) : CallR X (.type "list") (rListS K) := h ▸ cr_listS
theorem k_tupS (h : X.K = K) : CallR X (.type "tuple") (rTupS K) := h ▸ cr_tupS
theorem k_isi (h : X.K = K) : CallR X (.builtin "isinstance") (rIsi K) := h ▸ call_isi
theorem k_max (h : X.K = K) (hc : X.calm = true) : CallR X (.builtin "max") (rMax K) := h ▸ cr_max hc
theorem k_min (h : X.K = K) (hc : X.calm = true) : CallR X (.builtin "min") (rMin K) := h ▸ cr_min hc
theorem k_index (h : X.K = K) : MtR X "list.index" (rIndex K) := h ▸ mt_index
theorem k_tru {e : Expr} {te : TE} (h : X.K = K) (he : PE X e te) (hi : ∀ whole, isTrue e X.env whole = (do let v ← whole; standAt e.pos; holding [v] (truthy v))) : PT X e (tTru K te) := h ▸ pt_tru he hi
theorem k_fld {e : Expr} {f : Str} (h : X.K = K) (he : PE X e ta) (hb : attributeBase e f X.env (eval e X.env) = eval e X.env) : PE X (.Attribute e f pos) (tFld K ta f) := h ▸ pe_fld he hb
theorem k_sfld {o value : Expr} {f : Str} {pos' : Pos} {tv : TE} (h : X.K = K) (ha : PE X o ta) (hv : PE X value tv) (hs : swapsWith value (some (.Attribute o f pos')) pos.line X.env = pure false) : PS X (.Assign [.Attribute o f pos'] value pos) (sFld K ta tv f) := h ▸ ps_fld ha hv hs
theorem k_tup {es : List Expr} {kk : Nat} {t : TGs} {n : Nat} (h : X.K = K) (hc : X.calm = true) (hg : PGs X es t) (hn : (assignEach es X.env).length = n := by rfl) (hst : (assignEach es X.env).findIdx? (·.1) = none := by rfl) :
    PG X (.Tuple es kk pos) (gTup K n t) := h ▸ pg_tup hc hg hn hst
theorem k_seqS {tg l : Expr} {tl : TE} (h : X.K = K) (hl : PE X l tl) : PI X tg l (iSeq K tl) := h ▸ pi_seqS hl
theorem k_enumS {e : Expr} {ta : TA} {p pos tpos : Pos} {elts : List Expr} {kk : Nat} (h : X.K = K) (hg : Gl X "enumerate") (hm : X.mg "enumerate" = none) (ha : PA X [e] ta) (hs : starEach [e] X.env = [(false, eval e X.env)] := by rfl) :
    PI X (.Tuple elts kk tpos) (.Call (.Name "enumerate" p) [e] [] pos) (iEnumS K ta) := h ▸ pi_enumS hg hm ha hs
theorem k_zipS {e e2 : Expr} {ta : TA} {p pos tpos : Pos} {elts : List Expr} {kk : Nat} (h : X.K = K) (hg : Gl X "zip") (hm : X.mg "zip" = none) (ha : PA X [e, e2] ta)
    (hs : starEach [e, e2] X.env = (false, eval e X.env) :: starEach [e2] X.env := by rfl) (hpl : (backTo pos (starEach [e2] X.env)).any (·.1) = false := by rfl) :
    PI X (.Tuple elts kk tpos) (.Call (.Name "zip" p) [e, e2] [] pos) (iZipS K ta) := h ▸ pi_zipS hg hm ha hs hpl
theorem k_bm {o e : Expr} {es : List Expr} {to : TE} {t : TA} {name : Str} {apos cpos : Pos} {T id : String} {r : V → List V → Hp → VK → Prop} (h : X.K = K)
    (pa : PlainAttrs T) (slot : Slot T name id) (hty : typeOf (.builtin id) = pure (.type "method_descriptor")) (hm : MtR X id r) (ho : PE X o to) (ha : PA X (e :: es) t)
    (hbase : attributeBase o name X.env (eval o X.env) = eval o X.env := by rfl)
    (hfew : ((backTo cpos (starEach (e :: es) X.env)).all (fun x => !x.1) && (backToKw cpos (keywordEach [] X.env)).all (fun x => x.1.isSome)
      && decide ((e :: es).length + ([] : List Keyword).length + (if ([] : List Keyword).isEmpty then 0 else 1) < 30)) = true := by rfl)
    (hline : (apos.endLine == cpos.line) = true := by rfl) (hs : starEach (e :: es) X.env = (false, eval e X.env) :: starEach es X.env := by rfl) (hplain : (backTo cpos (starEach es X.env)).any (·.1) = false := by rfl) :
    PE X (.Call (.Attribute o name apos) (e :: es) [] cpos) (tBM K T r to t) := h ▸ pe_bm pa slot hty hm ho ha hbase hfew hline hs hplain
end
end L2

namespace L2
open PySem PySem.Spec PyProof.Rows
/-! ### dicts with texts as keys: read, written, made -/
theorem u1 {n : Nat} (h : n + 64 < cLine) : n + 1 < cLine := by omega
section
variable {K : PySem.W.Frag} {σ : St} {H : Hp} {v : V} {Q : VK} {td ty tv : TE} {a : Addr} {kvs kvs' : List (Key × V)} {s : Str}
theorem w_dget (q : td σ H fun x H1 => ty σ H1 fun y H2 => ∃ a v, x = .ref a ∧ DGet H2 a y (some v) ∧ Q v H2) : tDGet td ty σ H Q := q
theorem w_dgetAt (h : H a = some (.dK kvs)) (l : valV kvs (.inr s) = some v) {F : V → Prop} (q : F v) : ∃ a' v', V.ref a = .ref a' ∧ DGet H a' (.str s) (some v') ∧ F v' := ⟨a, v, rfl, by rw [← l]; exact DGet.k (k := .inr s) h, q⟩
theorem w_dput {nx b' c' : St → Hp → Prop} {rt : VK} (q : tv σ H fun v H1 => td σ H1 fun x H2 => ty σ H2 fun y H3 => ∃ a H4, x = .ref a ∧ DPut H3 a y v H4 ∧ nx σ H4) : sDPut td ty tv ⟨nx, rt, b', c'⟩ σ H := q
theorem w_dputAt (h : H a = some (.dK kvs)) (hl : kvs.length < 1000) (e : putK kvs (.inr s) v = kvs') {F : Hp → Prop} (q : F (upd H a (.dK kvs'))) : ∃ a' H4, V.ref a = .ref a' ∧ DPut H a' (.str s) v H4 ∧ F H4 :=
  ⟨a, _, rfl, DPut.k (k := .inr s) h (by rw [sizeLine_eq]; omega), by rw [e]; exact q⟩
theorem w_disp {trs : List (TE × TE)} (q : ∀ p, H p = none → tPairs trs σ (upd H p (.dK [])) fun ps H2 => H2 p = some (.dK []) ∧ ∃ kvs : List (Key × V), ps = kvs.map (fun kv => (kV kv.1, kv.2)) ∧ kvs.length ≤ 15 ∧ Q (.ref p) (upd H2 p (.dK (mergeK [] kvs)))) : tDisp trs σ H Q := q
theorem w_pair0 {Qp : List (V × V) → Hp → Prop} (q : Qp [] H) : tPairs [] σ H Qp := q
theorem w_pair1 {Qp : List (V × V) → Hp → Prop} {tk tv : TE} {r : List (TE × TE)} (q : tk σ H fun x H1 => tv σ H1 fun y H2 => tPairs r σ H2 fun ps H3 => Qp ((x, y) :: ps) H3) : tPairs ((tk, tv) :: r) σ H Qp := q
end
/-- what stands elsewhere than at t stays -/
def Fr (t : Addr) (H H' : Hp) : Prop := ∀ b o, b ≠ t → H b = some o → H' b = some o
theorem Fr.refl (t : Addr) (H : Hp) : Fr t H H := fun _ _ _ e => e
theorem Fr.trans {t : Addr} {H H' H'' : Hp} (h : Fr t H H') (h' : Fr t H' H'') : Fr t H H'' := fun b o n e => h' b o n (h b o n e)
theorem Fr.upd {t : Addr} {H H' : Hp} (h : Fr t H H') (o : HO) : Fr t H (upd H' t o) := fun b u n e => by
  rw [upd_ne n]
  exact h b u n e
theorem Fr.same {t : Addr} {H H' : Hp} (h : Same H H') : Fr t H H' := fun b o _ e => h b o e
theorem Fr.sq {t : Addr} {H H' : Hp} {b : Bool} {K : PySem.W.Frag} {a : Addr} {xs : List V} (f : Fr t H H') (ht : ∃ kvs, H t = some (.dK kvs)) (h : Sq b K H a xs) : Sq b K H' a xs := by
  obtain ⟨kvs, ht⟩ := ht
  cases b with
  | true =>
    have h : SqL K H a xs := h
    rcases h with (h | ⟨o, h⟩) | h
    · exact .inl (.inl (f _ _ (fun e => by rw [e, ht] at h; cases h) h))
    · exact .inl (.inr ⟨o, f _ _ (fun e => by rw [e, ht] at h; cases h) h⟩)
    · exact .inr h
  | false =>
    have h : SqT K H a xs := h
    rcases h with (h | ⟨o, h⟩) | h
    · exact .inl (.inl (f _ _ (fun e => by rw [e, ht] at h; cases h) h))
    · exact .inl (.inr ⟨o, f _ _ (fun e => by rw [e, ht] at h; cases h) h⟩)
    · exact .inr h
/-- the tape: its cells, place, great number, how many left, seed, turn -/
def tapeF (l : Addr) (at_ gr le se tu : Int) : List (Key × V) := [(.inr "cells", .ref l), (.inr "at", .int at_), (.inr "great", .int gr), (.inr "left", .int le), (.inr "seed", .int se), (.inr "turn", .int tu)]
def IsTape (H : Hp) (t l : Addr) : Prop := ∃ (cs : List Int) (at_ gr le se tu : Int), H t = some (.dK (tapeF l at_ gr le se tu)) ∧ H l = some (.lst (cs.map V.int)) ∧ 0 ≤ at_
theorem IsTape.same {H H' : Hp} {t l : Addr} (s : Same H H') (h : IsTape H t l) : IsTape H' t l := by
  obtain ⟨cs, a, b, c, d, e, h1, h2, h3⟩ := h
  exact ⟨cs, a, b, c, d, e, s _ _ h1, s _ _ h2, h3⟩
theorem IsTape.upd {H : Hp} {t l D : Addr} {o : HO} (h1 : D ≠ t) (h2 : D ≠ l) (h : IsTape H t l) : IsTape (upd H D o) t l := by
  obtain ⟨cs, a, b, c, d, e, g1, g2, g3⟩ := h
  exact ⟨cs, a, b, c, d, e, (upd_ne (Ne.symm h1)).trans g1, (upd_ne (Ne.symm h2)).trans g2, g3⟩
theorem val_neg {j k : Key} {u : V} {kvs : List (Key × V)} (h : ¬ j = k) : valV ((j, u) :: kvs) k = valV kvs k := valV_neg h
theorem val_pos {k : Key} {u : V} {kvs : List (Key × V)} : valV ((k, u) :: kvs) k = some u := valV_pos rfl
theorem tape_cells {l : Addr} {at_ gr le se tu : Int} : valV (tapeF l at_ gr le se tu) (.inr "cells") = some (.ref l) := val_pos
theorem tape_at {l : Addr} {at_ gr le se tu : Int} : valV (tapeF l at_ gr le se tu) (.inr "at") = some (.int at_) := (val_neg (by decide +kernel)).trans val_pos
theorem tape_great {l : Addr} {at_ gr le se tu : Int} : valV (tapeF l at_ gr le se tu) (.inr "great") = some (.int gr) := (val_neg (by decide +kernel)).trans ((val_neg (by decide +kernel)).trans val_pos)
theorem tape_left {l : Addr} {at_ gr le se tu : Int} : valV (tapeF l at_ gr le se tu) (.inr "left") = some (.int le) := (val_neg (by decide +kernel)).trans ((val_neg (by decide +kernel)).trans ((val_neg (by decide +kernel)).trans val_pos))
theorem tape_seed {l : Addr} {at_ gr le se tu : Int} : valV (tapeF l at_ gr le se tu) (.inr "seed") = some (.int se) := (val_neg (by decide +kernel)).trans ((val_neg (by decide +kernel)).trans ((val_neg (by decide +kernel)).trans ((val_neg (by decide +kernel)).trans val_pos)))
theorem tape_turn {l : Addr} {at_ gr le se tu : Int} : valV (tapeF l at_ gr le se tu) (.inr "turn") = some (.int tu) := (val_neg (by decide +kernel)).trans ((val_neg (by decide +kernel)).trans ((val_neg (by decide +kernel)).trans ((val_neg (by decide +kernel)).trans ((val_neg (by decide +kernel)).trans val_pos))))
/-- a store at a key that is there -/
def replK (kvs : List (Key × V)) (k : Key) (v : V) : List (Key × V) := kvs.map fun kv => if kv.1 = k then (kv.1, v) else kv
theorem putK_repl {kvs : List (Key × V)} {k : Key} {v u : V} (h : valV kvs k = some u) : putK kvs k v = replK kvs k v := by
  unfold putK
  rw [valV_any, h]
  rfl
theorem repl_pos {kvs : List (Key × V)} {k : Key} {v u : V} : replK ((k, u) :: kvs) k v = (k, v) :: replK kvs k v := by
  show (if k = k then _ else _) :: _ = _
  rw [if_pos rfl]; rfl
theorem repl_neg {kvs : List (Key × V)} {k j : Key} {v u : V} (h : ¬ j = k) : replK ((j, u) :: kvs) k v = (j, u) :: replK kvs k v := by
  show (if j = k then _ else _) :: _ = _
  rw [if_neg h]; rfl
theorem tape_setAt {l : Addr} {at_ gr le se tu z : Int} : putK (tapeF l at_ gr le se tu) (.inr "at") (.int z) = tapeF l z gr le se tu := by
  rw [putK_repl tape_at]; unfold tapeF
  rw [repl_neg (by decide +kernel), repl_pos, repl_neg (by decide +kernel), repl_neg (by decide +kernel), repl_neg (by decide +kernel), repl_neg (by decide +kernel)]; rfl
theorem tape_setGreat {l : Addr} {at_ gr le se tu z : Int} : putK (tapeF l at_ gr le se tu) (.inr "great") (.int z) = tapeF l at_ z le se tu := by
  rw [putK_repl tape_great]; unfold tapeF
  rw [repl_neg (by decide +kernel), repl_neg (by decide +kernel), repl_pos, repl_neg (by decide +kernel), repl_neg (by decide +kernel), repl_neg (by decide +kernel)]; rfl
theorem tape_setLeft {l : Addr} {at_ gr le se tu z : Int} : putK (tapeF l at_ gr le se tu) (.inr "left") (.int z) = tapeF l at_ gr z se tu := by
  rw [putK_repl tape_left]; unfold tapeF
  rw [repl_neg (by decide +kernel), repl_neg (by decide +kernel), repl_neg (by decide +kernel), repl_pos, repl_neg (by decide +kernel), repl_neg (by decide +kernel)]; rfl
theorem tape_setSeed {l : Addr} {at_ gr le se tu z : Int} : putK (tapeF l at_ gr le se tu) (.inr "seed") (.int z) = tapeF l at_ gr le z tu := by
  rw [putK_repl tape_seed]; unfold tapeF
  rw [repl_neg (by decide +kernel), repl_neg (by decide +kernel), repl_neg (by decide +kernel), repl_neg (by decide +kernel), repl_pos, repl_neg (by decide +kernel)]; rfl
theorem tape_setTurn {l : Addr} {at_ gr le se tu z : Int} : putK (tapeF l at_ gr le se tu) (.inr "turn") (.int z) = tapeF l at_ gr le se z := by
  rw [putK_repl tape_turn]; unfold tapeF
  rw [repl_neg (by decide +kernel), repl_neg (by decide +kernel), repl_neg (by decide +kernel), repl_neg (by decide +kernel), repl_neg (by decide +kernel), repl_pos]; rfl
theorem tape_len {l : Addr} {at_ gr le se tu : Int} : (tapeF l at_ gr le se tu).length < 1000 := by show 6 < 1000; omega
end L2

namespace L2
open PySem PySem.Spec PyProof.Rows
/-! ### o[i] += e in lists; comprehensions with any state, with or without a test -/
def rGetL : V → V → Hp → VK → Prop := fun o i H Q => ∃ p xs k x, o = .ref p ∧ i = .int k ∧ 0 ≤ k ∧ H p = some (.lst xs) ∧ xs[k.toNat]? = some x ∧ Q x H
theorem get_list {X : Cx} : PGet X rGetL := by
  intro pins s σ H o i ov iv Q I ro ri h
  obtain ⟨p, xs, k, x, rfl, rfl, h0, hp, hx, q⟩ := h
  cases ro
  obtain ⟨t, rfl⟩ := ri
  obtain ⟨its, r, pl, hz⟩ := I.list (SqL.of hp)
  obtain ⟨w, ew, rw'⟩ := r.get hx
  have h1 := (List.getElem?_eq_some_iff.mp hx).1
  rw [sizeLine_eq] at hz
  exact wpAny_getItem_list pl.isList h0 (by omega) (by simpa using ew) ⟨x, H, I, rw', q⟩
section
variable {K : PySem.W.Frag} {σ : St} {H : Hp} {tt : TT} {te : TE} {g : TG} {vs : List Nat} {Q : VK}
theorem w_augS {to ti te : TE} {tget : V → V → Hp → VK → Prop} {tip : TIp} {tset : TSet} {nx b' c' : St → Hp → Prop} {rt : VK} (q : to σ H fun o H1 => ti σ H1 fun i H2 => tget o i H2 fun x H3 => te σ H3 fun y H4 => tip x y H4 fun z H5 => tset o i z H5 fun H6 => nx σ H6) : tAugS to ti te tget tip tset ⟨nx, rt, b', c'⟩ σ H := q
theorem w_prop {C : Addr} {sp : Sp} {dvs : List V} {E : XK} {ta : TE} (q : ta σ H fun x H1 => ∃ a dx fs, x = .ref a ∧ H1 a = some (.ins C dx fs) ∧ sp (.ref a :: dvs) H1 Q E) : tProp C sp dvs E ta σ H Q := q
theorem w_propAt {p C dx : Addr} {fs : List (Str × V)} {F : Addr → Prop} (h : H p = some (.ins C dx fs)) (q : F p) : ∃ a dx fs, V.ref p = .ref a ∧ H a = some (.ins C dx fs) ∧ F a := ⟨p, dx, fs, rfl, h, q⟩
theorem w_lstRg {t : L2.St → Hp → (Int → Int → Hp → Prop) → Prop} (q : t σ H fun a b H1 => RgOk a b ∧ ∀ q, H1 q = none → Q (.ref q) (upd H1 q (.lst (rgV a b)))) : tLstRg t σ H Q := q
theorem w_tupRg {t : L2.St → Hp → (Int → Int → Hp → Prop) → Prop} (q : t σ H fun a b H1 => RgOk a b ∧ ∀ q, H1 q = none → Q (.ref q) (upd H1 q (.tup (rgV a b)))) : tTupRg t σ H Q := q
theorem w_rg1 {ta : TE} {QR : Int → Int → Hp → Prop} (q : ta σ H fun x H1 => ∃ n, x = .int n ∧ QR 0 n H1) : tRg1 ta σ H QR := q
theorem w_rg2 {ta tb : TE} {QR : Int → Int → Hp → Prop} (q : ta σ H fun x H1 => tb σ H1 fun y H2 => ∃ i j, x = .int i ∧ y = .int j ∧ QR i j H2) : tRg2 ta tb σ H QR := q
theorem w_getI {p : Addr} {ns : List Int} {k : Int} (h : H p = some (.lst (ns.map V.int))) (h0 : 0 ≤ k) (h1 : k < ns.length) (q : Q (.int (nth ns k)) H) : rGetL (.ref p) (.int k) H Q := by
  refine ⟨p, _, k, .int (nth ns k), rfl, rfl, h0, h, ?_, q⟩
  have e : k = ((k.toNat : Nat) : Int) := (Int.toNat_of_nonneg h0).symm
  rw [vec_get (ns := ns) (i := k.toNat) (by omega), ← e]
theorem l_compG {J : It} {n : Nat} {G : Hp → Prop} {Y : Nat → Hp → V → Hp → Prop} (w : Walk J n G Y) (hz : n < sizeLine) (Sv : Addr → Nat → List V → Hp → Prop) (h0 : ∀ D, H D = none → Sv D 0 [] (upd H D (.lst []))) (hG : ∀ D i acc H', Sv D i acc H' → G H')
    (hs : ∀ i x H1 H2 D acc (NT : VK) (NF : Hp → Prop), i < n → H D = none → Sv D i acc H1 → H1 D = some (.lst acc) → acc.length ≤ i → Y i H1 x H2 → (∀ y H5, H5 D = some (.lst acc) → Sv D (i + 1) (acc ++ [y]) (upd H5 D (.lst (acc ++ [y]))) → NT y H5) →
      (∀ H4, H4 D = some (.lst acc) → Sv D (i + 1) acc H4 → NF H4) → g x (wipe σ vs) H2 fun σ2 H3 => wipe σ2 vs = wipe σ vs ∧ tt σ2 H3 fun b H4 => if b = true then te σ2 H4 NT else NF H4)
    (k : ∀ D H' ys, H D = none → Sv D n ys H' → H' D = some (.lst ys) → ys.length ≤ n → Q (.ref D) H') : CompOk J g tt te vs σ H Q := by
  intro D hD
  refine lc_it w (fun i H' => ∃ acc, H' D = some (.lst acc) ∧ acc.length ≤ i ∧ Sv D i acc H') ⟨[], upd_same, Nat.le_refl _, h0 D hD⟩ (fun i H' _ ⟨acc, _, _, h⟩ => hG D i acc H' h) ?_ ?_
  · rintro i x H1 H2 hi ⟨acc, e, hl, st⟩ hy
    exact hs i x H1 H2 D acc _ _ hi hD st e hl hy (fun y H5 e5 s5 => ⟨acc, e5, Nat.lt_of_le_of_lt hl (Nat.lt_trans hi hz), acc ++ [y], upd_same, by rw [List.length_append, List.length_singleton]; omega, s5⟩) (fun H4 e4 s4 => ⟨acc, e4, by omega, s4⟩)
  · rintro H' ⟨acc, e, hl, st⟩
    exact k D H' acc hD st e hl
/-- for .. in range(n), of any state -/
theorem l_compGR {n : Int} {j : Nat} (h1 : -(2 ^ 62) ≤ n) (h2 : n < 16000000) (Sv : Addr → Nat → List V → Hp → Prop) (hw : ∀ x : V, wipe ((wipe σ vs).set j (some x)) vs = wipe σ vs) (h0 : ∀ D, H D = none → Sv D 0 [] (upd H D (.lst [])))
    (hs : ∀ (i : Nat) H1 D acc (NT : VK) (NF : Hp → Prop), (i : Int) < n → H D = none → Sv D i acc H1 → H1 D = some (.lst acc) → acc.length ≤ i → (∀ y H5, H5 D = some (.lst acc) → Sv D (i + 1) (acc ++ [y]) (upd H5 D (.lst (acc ++ [y]))) → NT y H5) →
      (∀ H4, H4 D = some (.lst acc) → Sv D (i + 1) acc H4 → NF H4) → tt ((wipe σ vs).set j (some (.int (i : Int)))) H1 fun b H4 => if b = true then te ((wipe σ vs).set j (some (.int (i : Int)))) H4 NT else NF H4)
    (k : ∀ D H' ys, H D = none → Sv D n.toNat ys H' → H' D = some (.lst ys) → ys.length ≤ n.toNat → Q (.ref D) H') :
    ∃ j' : Int, [V.int n] = [.int j'] ∧ -(2 ^ 62) ≤ j' ∧ j' < 2 ^ 62 ∧ CompOk (Itr 0 j'.toNat) (gName j) tt te vs σ H Q := by
  refine ⟨n, rfl, h1, by omega, l_compG (walk_range (lo := 0) (n := n.toNat)) (by rw [sizeLine_eq]; omega) Sv h0 (fun _ _ _ _ _ => trivial) (fun i x H1 H2 D acc NT NF hi hD st e1 hl hy hT hF => ?_) k⟩
  obtain ⟨e, ex⟩ := hy
  subst e ex
  show wipe ((wipe σ vs).set j (some (.int (0 + (i : Int))))) vs = wipe σ vs ∧ tt ((wipe σ vs).set j (some (.int (0 + (i : Int))))) _ fun b H4 => if b = true then te ((wipe σ vs).set j (some (.int (0 + (i : Int))))) H4 NT else NF H4
  rw [Int.zero_add]
  exact ⟨hw _, hs i _ D acc NT NF (by omega) hD st e1 hl hT hF⟩
/-- for .. in a list or a tuple, of any state -/
theorem l_compGS {b : Bool} {a : Addr} {j : Nat} (xs : List V) (hz : xs.length < sizeLine) (Sv : Addr → Nat → List V → Hp → Prop) (hx : Sq b K H a xs) (hw : ∀ x : V, wipe ((wipe σ vs).set j (some x)) vs = wipe σ vs) (h0 : ∀ D, H D = none → Sv D 0 [] (upd H D (.lst []))) (hG : ∀ D i acc H', Sv D i acc H' → Sq b K H' a xs)
    (hs : ∀ (i : Nat) x H1 D acc (NT : VK) (NF : Hp → Prop), i < xs.length → xs[i]? = some x → H D = none → Sv D i acc H1 → H1 D = some (.lst acc) → acc.length ≤ i → (∀ y H5, H5 D = some (.lst acc) → Sv D (i + 1) (acc ++ [y]) (upd H5 D (.lst (acc ++ [y]))) → NT y H5) →
      (∀ H4, H4 D = some (.lst acc) → Sv D (i + 1) acc H4 → NF H4) → tt ((wipe σ vs).set j (some x)) H1 fun b H4 => if b = true then te ((wipe σ vs).set j (some x)) H4 NT else NF H4)
    (k : ∀ D H' ys, H D = none → Sv D xs.length ys H' → H' D = some (.lst ys) → ys.length ≤ xs.length → Q (.ref D) H') :
    ∃ a', V.ref a = .ref a' ∧ ((∃ xs, SqL K H a' xs) ∧ CompOk (Itl K a') (gName j) tt te vs σ H Q ∨ (∃ xs, SqT K H a' xs) ∧ CompOk (Itt K a') (gName j) tt te vs σ H Q) := by
  refine ⟨a, rfl, ?_⟩
  cases b with
  | true =>
    refine .inl ⟨⟨xs, hx⟩, l_compG (walk_list (xs := xs)) hz Sv h0 hG (fun i x H1 H2 D acc NT NF hi hD st e1 hl hy hT hF => ?_) k⟩
    obtain ⟨e, ex⟩ := hy
    subst e
    exact ⟨hw _, hs i x _ D acc NT NF hi ex hD st e1 hl hT hF⟩
  | false =>
    refine .inr ⟨⟨xs, hx⟩, l_compG (walk_tup (xs := xs)) hz Sv h0 hG (fun i x H1 H2 D acc NT NF hi hD st e1 hl hy hT hF => ?_) k⟩
    obtain ⟨e, ex⟩ := hy
    subst e
    exact ⟨hw _, hs i x _ D acc NT NF hi ex hD st e1 hl hT hF⟩
end
end L2

namespace PySem.W
open PySem PySem.Calls PyProof.Rows Builtin
/-! ### == and != of instances whose class has its own __eq__ -/
section
variable {prog : Program} {w : World} {A : Around} {E : Value → Shared → Prop} {s : Shared} {K : Frag} {x C L f : Addr} {h₀ : Heap} {m : Str → Option Value} {ox : Obj} {od : Option Obj} {name : Str} {b tb : Value}
theorem ifBound_B {M : Model} {args : List Value} {id : String} {Q : Option Value → Shared → Prop} (X : K.In s.heap) (I : InstAt s.heap x ox C od) (hs : findIn K (.ref C) name = some (some (.builtin id)))
    (hb : ∀ self, bindSpecial (.builtin id) self = pure (.builtin id, [self])) (h : wpAny M A (call (.builtin id) (.ref x :: args)) (fun v => Q (some v)) E s) : wpAny M A (callSpecialIfBound? (.ref x) name args) Q E s := by
  simp only [callSpecialIfBound?, bindSpecialIfBound?]
  refine wpAny_holding (wpAny_bind (wpAny_bind (wpAny_bind (I.type.here ((looks_findIn X hs).here ?_)))))
  refine wpAny_bind (wpAny_askSetting (wpAny_ite ?_))
  have fin : wpAny M A (call (.builtin id) ([.ref x] ++ args) >>= fun v => pure (some v)) Q E s := wpAny_bind (wpAny_mono h (fun v s' h' => wpAny_pure h') fun _ _ h' => h')
  split
  · exact wpAny_bind ((Looks.of_pure (hb _)).here (wpAny_pure (by exact fin)))
  · exact wpAny_tryCatch (wpAny_bind ((Looks.of_pure (hb _)).here (wpAny_pure (by exact fin))))
theorem obj_ne {Q : Value → Shared → Prop} (hu : A.in1.units < cLine) (X : K.In s.heap) (I : InstAt s.heap x ox C od) (hm : mroIn K C (.type "object") = some true) (hs : findIn K (.ref C) "__eq__" = some (some (.ref f))) (hf : isFn K (.ref f) = true)
    (h : wpAny (model prog w) A.in1 (call (.ref f) [.ref x, b]) (fun v s' => ∃ c, v = .bool c ∧ Q (.bool (!c)) s') E s) : wpAny (model prog w) A (call (.builtin "object.__ne__") [.ref x, b]) Q E s := by
  refine wpAny_call (codeAny_call_builtin PySem.F.cmp_object.ne.plain PySem.F.cmpEntry_ne (check_slot PySem.F.cmpKind_ne PySem.F.cmpSplit_ne (I.type.andThen (looks_mroIn X hm)) (PySem.F.cmpArgs_ne _ _) ?_))
  unfold Builtin.«object.__ne__»
  refine wpAny_bind (m := slotArgs "__ne__" 1 _) (wpAny_pure ?_)
  refine wpAny_bind (m := cRoomFor _ _) (wpAny_cRoomFor hu ?_)
  refine wpAny_bind (m := callSpecialIfBound? (.ref x) (Str.ofString "__eq__") _) (ifBound_K X I hs hf (wpAny_mono h (fun r s' hq => ?_) fun _ _ y => y))
  obtain ⟨c, rfl, q⟩ := hq
  refine wpAny_bind (m := truthy (.bool _)) (wpAny_truthy_bool ?_)
  exact wpAny_pure q
theorem ne_own {Q : Value → Shared → Prop} (hu : A.units + 1 < cLine) (F : Fr h₀ L s.heap m) (X₀ : K.In h₀) (I : InstAt s.heap x ox C od) (hb : Looks (model prog w) s.heap (typeOf b) tb) (hn : notFirst K C tb = true)
    (hne : findIn K (.ref C) "__ne__" = some (some (.builtin "object.__ne__"))) (hm : mroIn K C (.type "object") = some true) (hs : findIn K (.ref C) "__eq__" = some (some (.ref f))) (hf : isFn K (.ref f) = true)
    (h : wpAny (model prog w) A.in1 (call (.ref f) [.ref x, b]) (fun v s' => ∃ c, v = .bool c ∧ Q (.bool (!c)) s') E s) : wpAny (model prog w) A (richCompare .NotEq (.ref x) b) Q E s := by
  have X := X₀.keeps F.keep
  have one : wpAny (model prog w) A (tryCompare (.ref x) (cmpInfo .NotEq).2.1 b) (fun r s' => ∃ v, r = some v ∧ Q v s') E s := by
    unfold tryCompare
    refine wpAny_bind (ifBound_B X I hne PySem.F.cmp_object.ne.bind (obj_ne (by show A.units + 1 < _; exact hu) X I hm hs hf (wpAny_mono h (fun v s' hv => ?_) fun _ _ e => e)))
    obtain ⟨c, rfl, q⟩ := hv
    exact ⟨c, rfl, wpAny_pure ⟨_, rfl, q⟩⟩
  unfold richCompare
  simp only [oneThing_ref]
  refine wpAny_holding (wpAny_bind (wpAny_cRoomFor (Nat.lt_of_succ_lt hu) ?_))
  refine wpAny_bind (I.type.here (wpAny_bind (hb.here ?_)))
  split
  · rename_i q
    have e : subIn K tb (.ref C) = some false := by
      rcases Bool.or_eq_true_iff.mp hn with e | e
      · rw [beq_iff_eq.mp e] at q; simp at q
      · exact beq_iff_eq.mp e
    refine wpAny_bind ((looks_subIn X e).here ?_)
    simp only [Bool.false_eq_true, if_false]
    refine wpAny_bind (wpAny_mono one (fun r s' z => ?_) fun _ _ e => e)
    obtain ⟨v, rfl, hq⟩ := z
    exact wpAny_pure hq
  · refine wpAny_bind (wpAny_pure ?_)
    simp only [Bool.false_eq_true, if_false]
    refine wpAny_bind (wpAny_mono one (fun r s' z => ?_) fun _ _ e => e)
    obtain ⟨v, rfl, hq⟩ := z
    exact wpAny_pure hq
end
end PySem.W
namespace L2
open PySem PySem.Spec PyProof.Rows
/-- what a class with its own == says of itself -/
structure EqOf (K : PySem.W.Frag) (C f : Addr) : Prop where
  eq : PySem.W.findIn K (.ref C) "__eq__" = some (some (.ref f))
  fn : PySem.W.isFn K (.ref f) = true
  ne : PySem.W.findIn K (.ref C) "__ne__" = some (some (.builtin "object.__ne__"))
  mro : PySem.W.mroIn K C (.type "object") = some true
/-- x == y, x an instance of the class at C: what its __eq__ (promise sp) answers, a bool -/
def rEqO (K : PySem.W.Frag) (C : Addr) (sp : Sp) : R2 := fun x y H Q => ∃ a dx fs t, x = .ref a ∧ H a = some (.ins C dx fs) ∧ TyX K H y t ∧ PySem.W.notFirst K C t = true ∧ sp [x, y] H (fun v H' => ∃ c, v = .bl c ∧ Q (.bl c) H') (fun _ _ _ => False)
def rNeO (K : PySem.W.Frag) (C : Addr) (sp : Sp) : R2 := fun x y H Q => ∃ a dx fs t, x = .ref a ∧ H a = some (.ins C dx fs) ∧ TyX K H y t ∧ PySem.W.notFirst K C t = true ∧ sp [x, y] H (fun v H' => ∃ c, v = .bl c ∧ Q (.bl (!c)) H') (fun _ _ _ => False)
section
variable {X : Cx} {CX : CXT} {C f : Addr} {fd : FuncData} {ps : List Str} {sp : Sp} {n : Nat}
theorem own_run {A : Around} {pins : List (Addr × Obj)} {σ : St} {H : Hp} {s : Shared} {Q : VK} {a : Addr} {y : V} {u : Value} (F : FnOk X.prog X.w X.K X.mg X.base CX n f fd ps sp) (hr : Room n A) (hfr : A.frames = X.A.frames) (hb : Binds X.K fd ps []) (hx : Passes CX X (fun _ _ _ => False))
    (I : Inv X pins σ H s) (ry : RelV y u) (h : sp [.ref a, y] H Q (fun _ _ _ => False)) : wpAny (model X.prog X.w) A (call (.ref f) [.ref a, u]) (EP X pins σ Q) X.xe s := by
  have e0 : Env0 X.prog X.w X.K X.mg X.base A X.stack s H := by
    have e := I.env0
    exact ⟨by rw [hfr]; exact e.frames, e.mod, e.bs, e.bsz, e.funs, e.frf, e.hok, e.bare⟩
  have hl := F.len _ _ _ _ h
  have r2 : Vals [V.ref a, y] [Value.ref a, u] := .cons rfl (.cons ry .nil)
  refine wpAny_call (codeAny_mono (F.run A X.stack s H ⟨[.ref a, u], []⟩ [.ref a, u] [.ref a, y] _ _ hr e0 (by
    have := hb s [.ref a, u] I.kIn (by simpa using hl)
    simpa using this) r2 h) fun r s' hq => ?_)
  cases r with
  | error e => exact hx pins σ H s e s' I hq
  | ok fl =>
    cases fl with
    | ret w => exact I.after hq
    | next => exact False.elim hq
    | brk => exact False.elim hq
    | cont => exact False.elim hq
theorem op_eqO (e : EqOf X.K C f) (F : FnOk X.prog X.w X.K X.mg X.base CX n f fd ps sp) (hr : Room n X.A) (hb : Binds X.K fd ps []) (hx : Passes CX X (fun _ _ _ => False)) : OpR X (compareOp .Eq) (rEqO X.K C sp) := by
  intro pins s σ H x y v u Q I rx ry hq
  obtain ⟨a, dx, fs, t, rfl, ha, ty, hn, h⟩ := hq
  obtain rfl : v = Value.ref a := rx
  obtain ⟨mA, J, _⟩ := ins_get I.hok ha
  obtain ⟨od, J, _⟩ := J.look
  obtain ⟨m, hF⟩ := I.fr
  obtain ⟨P, Z, p, _⟩ := kit_of I ry ty
  show wpAny (model X.prog X.w) X.A (richCompare .Eq (.ref a) u) (EP X pins σ Q) X.xe s
  have hu : X.A.units < cLine := by have := hr.un; omega
  refine PySem.W.cmp_K (op := .Eq) hu hF I.ok.mod.kin J (Z.ty _ _ I.kIn p) hn e.eq e.fn ?_
  refine wpAny_mono (own_run F hr rfl hb hx I ry h) (fun r s' z => ?_) fun _ _ z => z
  obtain ⟨z, H', I', rz, c, ez, q⟩ := z
  subst ez
  cases rz
  exact ⟨.bl c, H', I', rfl, q⟩
theorem op_neO (e : EqOf X.K C f) (F : FnOk X.prog X.w X.K X.mg X.base CX n f fd ps sp) (hr : Room (n + 1) X.A) (hb : Binds X.K fd ps []) (hx : Passes CX X (fun _ _ _ => False)) : OpR X (compareOp .NotEq) (rNeO X.K C sp) := by
  intro pins s σ H x y v u Q I rx ry hq
  obtain ⟨a, dx, fs, t, rfl, ha, ty, hn, h⟩ := hq
  obtain rfl : v = Value.ref a := rx
  obtain ⟨mA, J, _⟩ := ins_get I.hok ha
  obtain ⟨od, J, _⟩ := J.look
  obtain ⟨m, hF⟩ := I.fr
  obtain ⟨P, Z, p, _⟩ := kit_of I ry ty
  show wpAny (model X.prog X.w) X.A (richCompare .NotEq (.ref a) u) (EP X pins σ Q) X.xe s
  have hu : X.A.units + 1 < cLine := by have := hr.un; omega
  refine PySem.W.ne_own hu hF I.ok.mod.kin J (Z.ty _ _ I.kIn p) hn e.ne e.mro e.eq e.fn ?_
  refine wpAny_mono (own_run (A := X.A.in1) F hr.in1 rfl hb hx I ry h) (fun r s' z => ?_) fun _ _ z => z
  obtain ⟨z, H', I', rz, c, ez, q⟩ := z
  subst ez
  cases rz
  exact ⟨c, rfl, .bl (!c), H', I', rfl, q⟩
end
end L2
namespace L2
open PySem PySem.Spec PyProof.Rows
/-- what isinstance asks of an own class, and of tuples, numbers and texts beside it -/
structure OwnC (K : PySem.W.Frag) (C : Addr) : Prop where
  cls : PySem.W.findIn K (.ref C) "__class__" = some (some (.builtin "object.__class__"))
  get : PySem.W.specialIn K (.builtin "object.__class__") "__get__" = some (some (.builtin "getset_descriptor.__get__"))
  tak : PySem.W.takesIn K (.builtin "object.__class__") = some true
  mro : PySem.W.mroIn K C (.type "object") = some true
  isc : PySem.W.isClsIn K C = true
  typ : PySem.W.typeIn K (.ref C) = some (.type "type")
  sT : PySem.W.subIn K (.type "tuple") (.ref C) = some false
  sI : PySem.W.subIn K (.type "int") (.ref C) = some false
  sS : PySem.W.subIn K (.type "str") (.ref C) = some false
section
variable {K : PySem.W.Frag} {C : Addr} {H : Hp} {Q : VK} {x : V}
theorem OwnC.tyx (o : OwnC K C) (cl : Cls K C) {a dx : Addr} {fs : List (Str × V)} (h : H a = some (.ins C dx fs)) : TyX K H (.ref a) (.ref C) := .base (.ins h cl o.cls o.get o.tak o.mro)
theorem kit_self : PySem.W.kitOne K (.ref C) (.ref C) = some true := if_pos (beq_self_eq_true _)
theorem kit_no {n : String} (h1 : PySem.W.isClsIn K C = true) (h2 : PySem.W.typeIn K (.ref C) = some (.type "type")) (h : PySem.W.subIn K (.type n) (.ref C) = some false) : PySem.W.kitOne K (.type n) (.ref C) = some false := by
  have h1' : (PySem.W.clsIn K C).isSome = true := h1
  unfold PySem.W.kitOne
  rw [if_neg (by intro e; cases (beq_iff_eq.mp e))]
  show (if ((PySem.W.clsIn K C).isSome && PySem.W.typeIn K (.ref C) == some (.type "type")) = true then PySem.W.subIn K (.type n) (.ref C) else none) = some false
  rw [if_pos (by rw [h1', h2]; rfl)]
  exact h
theorem first_self : PySem.W.notFirst K C (.ref C) = true := by simp [PySem.W.notFirst]
theorem first_no {n : String} (h : PySem.W.subIn K (.type n) (.ref C) = some false) : PySem.W.notFirst K C (.type n) = true := by
  unfold PySem.W.notFirst
  rw [h]
  simp
theorem w_isOwn (o : OwnC K C) (cl : Cls K C) {a dx : Addr} {fs : List (Str × V)} (h : H a = some (.ins C dx fs)) (q : Q (.bl true) H) : rIsi K [.ref a, .ref C] H Q := ⟨_, _, _, _, _, rfl, .own C, o.tyx cl h, kit_self, q⟩
theorem w_isNot (o : OwnC K C) {n : String} (ht : TyX K H x (.type n)) (hs : PySem.W.subIn K (.type n) (.ref C) = some false) (q : Q (.bl false) H) : rIsi K [x, .ref C] H Q := ⟨_, _, _, _, _, rfl, .own C, ht, kit_no o.isc o.typ hs, q⟩
theorem w_rep {l : Addr} {xs : List V} {k : Int} (h : H l = some (.lst xs)) (h0 : 0 ≤ k) (h1 : k ≤ 1000) (hz : xs.length ≤ 1000) (q : ∀ p, H p = none → Q (.ref p) (upd H p (.lst (List.replicate k.toNat xs).flatten))) : rRep (.ref l) (.int k) H Q :=
  ⟨l, k, xs, rfl, rfl, h, by omega, by omega, by
    rw [sizeLine_eq]
    have : xs.length * k.toNat ≤ 1000 * 1000 := Nat.mul_le_mul hz (by omega)
    omega, q⟩
end
/-! ### rows of any values; rows of new lists -/
def RRw (b : Bool) (K : PySem.W.Frag) : Rep (List V) := fun H v xs => ∃ a, v = .ref a ∧ Sq b K H a xs
theorem RRw.mono {b : Bool} {K : PySem.W.Frag} : RMono (RRw b K) := fun _ _ _ _ s ⟨a, e, h⟩ => ⟨a, e, s.sq h⟩
theorem RRw.tup {K : PySem.W.Frag} : RTup (RRw false K) := fun _ _ _ _ hD ⟨a, e, h⟩ => ⟨a, e, sq_hide hD h⟩
/-- D a list of new lists: their addresses, none twice, none there before -/
def FRows (H0 H : Hp) (D : Addr) (rows : List (List V)) : Prop := ∃ ps : List Addr, H D = some (.lst (ps.map V.ref)) ∧ ps.length = rows.length ∧ ps.Nodup ∧ (∀ p ∈ ps, H0 p = none) ∧ H0 D = none ∧ D ∉ ps ∧ ∀ (i : Nat) p r, ps[i]? = some p → rows[i]? = some r → H p = some (.lst r)
section
variable {K : PySem.W.Frag} {H0 H H' : Hp} {D : Addr} {rows : List (List V)}
theorem FRows.mono (s : Same H H') (f : FRows H0 H D rows) : FRows H0 H' D rows := by
  obtain ⟨ps, h1, h2, h3, h4, h5, h6, h7⟩ := f
  exact ⟨ps, s _ _ h1, h2, h3, h4, h5, h6, fun i p r a b => s _ _ (h7 i p r a b)⟩
theorem FRows.seq (f : FRows H0 H D rows) : RSeq true K (RRw true K) H (.ref D) rows := by
  obtain ⟨ps, h1, h2, h3, h4, h5, h6, h7⟩ := f
  refine ⟨D, _, rfl, Sq.lst h1, by rw [List.length_map]; exact h2, fun i y x hy hx => ?_⟩
  rw [List.getElem?_map] at hy
  cases e : ps[i]? with
  | none => rw [e] at hy; cases hy
  | some p =>
    rw [e] at hy
    cases hy
    exact ⟨p, rfl, Sq.lst (h7 i p x e hx)⟩
/-- a store into one of the rows -/
theorem FRows.set {i : Nat} {r r' : List V} (f : FRows H0 H D rows) (hi : rows[i]? = some r) : ∃ p, (∃ ps : List Addr, H D = some (.lst (ps.map V.ref)) ∧ ps[i]? = some p) ∧ H p = some (.lst r) ∧ H0 p = none ∧ p ≠ D ∧ FRows H0 (upd H p (.lst r')) D (rows.set i r') := by
  obtain ⟨ps, h1, h2, h3, h4, h5, h6, h7⟩ := f
  have hlt := (List.getElem?_eq_some_iff.mp hi).1
  have hp : ps[i]? = some (ps[i]'(by omega)) := List.getElem?_eq_getElem (by omega)
  generalize ps[i]'(by omega) = p at hp
  have hm := List.mem_of_getElem? hp
  have hpD : p ≠ D := fun e => h6 (by rw [← e]; exact hm)
  refine ⟨p, ⟨ps, h1, hp⟩, h7 i p r hp hi, h4 p hm, hpD, ps, (upd_ne (Ne.symm hpD)).trans h1, by rw [List.length_set]; exact h2, h3, h4, h5, h6, fun j q x hq hx => ?_⟩
  rw [List.getElem?_set] at hx
  by_cases e : i = j
  · subst e
    rw [if_pos rfl, if_pos hlt] at hx
    rw [hp] at hq
    cases hq
    cases hx
    exact upd_same
  · rw [if_neg e] at hx
    have hqp : q ≠ p := fun z => e (by
      subst z
      have a := (List.getElem?_eq_some_iff.mp hp)
      have b := (List.getElem?_eq_some_iff.mp hq)
      exact (List.getElem_inj h3).mp (a.2.trans b.2.symm))
    rw [upd_ne hqp]
    exact h7 j q x hq hx
theorem map_ref_inj : ∀ {ps qs : List Addr}, ps.map V.ref = qs.map V.ref → ps = qs
  | [], [], _ => rfl
  | [], q :: qs, h => by cases h
  | p :: ps, [], h => by cases h
  | p :: ps, q :: qs, h => by
    rw [List.map_cons, List.map_cons] at h
    injection h with h1 h2
    injection h1 with h1
    rw [h1, map_ref_inj h2]
/-- a new list put behind the rows -/
theorem FRows.push {p : Addr} {r : List V} {ps : List Addr} (h1 : H D = some (.lst (ps.map V.ref))) (f : FRows H0 H D rows) (hp : H p = some (.lst r)) (h0 : H0 p = none) (hn : p ∉ ps) (hD : p ≠ D) : FRows H0 (upd H D (.lst (ps.map V.ref ++ [.ref p]))) D (rows ++ [r]) := by
  obtain ⟨ps', g1, h2, h3, h4, h5, h6, h7⟩ := f
  have e : ps' = ps := by
    rw [g1] at h1
    have h1 : ps'.map V.ref = ps.map V.ref := by
      have := Option.some.inj h1
      injection this
    exact map_ref_inj h1
  subst e
  refine ⟨ps' ++ [p], by rw [upd_same, List.map_append]; rfl, by rw [List.length_append, List.length_append, h2]; rfl, List.nodup_append.mpr ⟨h3, List.nodup_cons.mpr ⟨List.not_mem_nil, List.nodup_nil⟩, fun a ha b hb e => hn (by rw [List.mem_singleton.mp hb] at e; rw [← e]; exact ha)⟩,
    fun q hq => ?_, h5, fun hm => ?_, fun i q x hq hx => ?_⟩
  · rcases List.mem_append.mp hq with h | h
    · exact h4 q h
    · rw [List.mem_singleton.mp h]; exact h0
  · rcases List.mem_append.mp hm with h | h
    · exact h6 h
    · exact hD (List.mem_singleton.mp h).symm
  · have hq1 := (List.getElem?_eq_some_iff.mp hq).1
    rw [List.length_append] at hq1
    by_cases hlt : i < ps'.length
    · rw [List.getElem?_append_left hlt] at hq
      rw [List.getElem?_append_left (by omega)] at hx
      have hqD : q ≠ D := fun e => h6 (by rw [← e]; exact List.mem_of_getElem? hq)
      rw [upd_ne hqD]
      exact h7 i q x hq hx
    · have ei : i = ps'.length := by
        have : i < ps'.length + 1 := hq1
        omega
      subst ei
      rw [List.getElem?_append_right (Nat.le_refl _), Nat.sub_self] at hq
      rw [h2, List.getElem?_append_right (Nat.le_refl _), Nat.sub_self] at hx
      cases hq
      cases hx
      rw [upd_ne hD]
      exact hp
end
theorem line_of1 {n : Nat} (h : n ≤ 1000000) : n < sizeLine := by rw [sizeLine_eq]; omega
theorem w_tupAny {K : PySem.W.Frag} {H : Hp} {Q : VK} {b : Bool} {a : Addr} {ys : List V} (h : Sq b K H a ys) (q : ∀ p H', Same H H' → Sq false K H' p ys → Q (.ref p) H') : rTupS K [.ref a] H Q := by
  cases b with
  | true => exact w_tupL h fun p hp => q _ _ (Same.new hp) (Sq.tup upd_same)
  | false => exact w_tupT h (q _ _ (Same.refl _) h)
theorem w_catA {K : PySem.W.Frag} {H : Hp} {Q : VK} {a b : Addr} {xs ys : List V} (h1 : Sq false K H a xs) (h2 : Sq false K H b ys) (hz : xs.length + ys.length ≤ 1000000) (q : ∀ p H', Same H H' → Sq false K H' p (xs ++ ys) → Q (.ref p) H') : rCatA K (.ref a) (.ref b) H Q :=
  ⟨a, b, xs, ys, rfl, rfl, h1, h2, by rw [sizeLine_eq]; omega, fun e => q _ _ (Same.refl _) (by rw [e]; exact h2), fun _ e => q _ _ (Same.refl _) (by rw [e, List.append_nil]; exact h1), fun _ _ p hp => q _ _ (Same.new hp) (Sq.tup upd_same)⟩
theorem Fr.sqI {b : Bool} {K : PySem.W.Frag} {H H' : Hp} {t a : Addr} {xs : List V} (f : Fr t H H') (ht : ∃ C dx fs, H t = some (.ins C dx fs)) (h : Sq b K H a xs) : Sq b K H' a xs := by
  obtain ⟨C, dx, fs, ht⟩ := ht
  cases b with
  | true =>
    have h : SqL K H a xs := h
    rcases h with (h | ⟨o, h⟩) | h
    · exact .inl (.inl (f _ _ (fun e => by rw [e, ht] at h; cases h) h))
    · exact .inl (.inr ⟨o, f _ _ (fun e => by rw [e, ht] at h; cases h) h⟩)
    · exact .inr h
  | false =>
    have h : SqT K H a xs := h
    rcases h with (h | ⟨o, h⟩) | h
    · exact .inl (.inl (f _ _ (fun e => by rw [e, ht] at h; cases h) h))
    · exact .inl (.inr ⟨o, f _ _ (fun e => by rw [e, ht] at h; cases h) h⟩)
    · exact .inr h
/-- lists or tuples of lists or tuples of any values -/
def RRows (b1 b2 : Bool) (K : PySem.W.Frag) : Rep (List (List V)) := RSeq b1 K (RRw b2 K)
theorem RRows.mono {b1 b2 : Bool} {K : PySem.W.Frag} : RMono (RRows b1 b2 K) := RSeq.mono RRw.mono
theorem RRows.fr {b1 b2 : Bool} {K : PySem.W.Frag} {H H' : Hp} {t : Addr} {v : V} {rows : List (List V)} (f : Fr t H H') (ht : ∃ C dx fs, H t = some (.ins C dx fs)) (h : RRows b1 b2 K H v rows) : RRows b1 b2 K H' v rows := by
  obtain ⟨a, vs, e, h1, h2, h3⟩ := h
  exact ⟨a, vs, e, f.sqI ht h1, h2, fun i y x hy hx => by
    obtain ⟨p, e, hp⟩ := h3 i y x hy hx
    exact ⟨p, e, f.sqI ht hp⟩⟩
theorem RRows.get {b1 b2 : Bool} {K : PySem.W.Frag} {H : Hp} {v : V} {rows : List (List V)} {i : Nat} {r : List V} (h : RRows b1 b2 K H v rows) (hi : rows[i]? = some r) : ∃ a vs p, v = .ref a ∧ Sq b1 K H a vs ∧ vs.length = rows.length ∧ vs[i]? = some (.ref p) ∧ Sq b2 K H p r := by
  obtain ⟨a, vs, e, h1, h2, h3⟩ := h
  obtain ⟨y, hy, p, ep, hp⟩ := RSeq.get (R := RRw b2 K) h2 h3 hi
  subst ep
  exact ⟨a, vs, p, e, h1, h2, hy, hp⟩
theorem none_back {H H' : Hp} {p : Addr} (s : Same H H') (h : H' p = none) : H p = none := by
  cases e : H p with
  | none => rfl
  | some u => rw [s _ _ e] at h; cases h
section
variable {K : PySem.W.Frag} {σ : St} {H : Hp} {te : TE} {vs : List Nat} {Q : VK}
theorem FRows.nil {D : Addr} (hD : H D = none) : FRows H (upd H D (.lst [])) D [] := ⟨[], upd_same, rfl, List.nodup_nil, List.forall_mem_nil _, hD, List.not_mem_nil, fun i p r h => by simp at h⟩
theorem FRows.next {H0 H1 H2 : Hp} {D p : Addr} {rows : List (List V)} {r : List V} {acc : List V} (f : FRows H0 H1 D rows) (s0 : Same H0 H1) (e : H1 D = some (.lst acc)) (hp : H1 p = none) (s : Same H1 H2) (ep : H2 p = some (.lst r)) :
    H2 D = some (.lst acc) ∧ FRows H0 (upd H2 D (.lst (acc ++ [.ref p]))) D (rows ++ [r]) := by
  obtain ⟨ps, h1, h2, h3, h4, h5, h6, h7⟩ := id f
  have ea : acc = ps.map V.ref := by
    rw [h1] at e
    have e := Option.some.inj e
    injection e with e
    exact e.symm
  subst ea
  refine ⟨s _ _ e, (f.mono s).push (s _ _ h1) ep (none_back s0 hp) (fun hm => ?_) (fun e2 => by rw [e2, e] at hp; cases hp)⟩
  obtain ⟨q, hq1, hq2⟩ := List.mem_iff_getElem.mp hm
  have a1 : ps[q]? = some p := by rw [List.getElem?_eq_getElem hq1, hq2]
  have a3 := h7 q p _ a1 (List.getElem?_eq_getElem (by omega))
  rw [a3] at hp; cases hp
/-- a comprehension that gives new lists -/
theorem c_fresh {b : Bool} {a : Addr} {j : Nat} (rows : List (List V)) (xs : List V) (hx : Sq b K H a xs) (hl : rows.length = xs.length) (hz : xs.length < sizeLine) (hw : ∀ x : V, wipe ((wipe σ vs).set j (some x)) vs = wipe σ vs)
    (hs : ∀ (i : Nat) x r H1 (N : VK), i < xs.length → xs[i]? = some x → rows[i]? = some r → Same H H1 → (∀ p H2, H1 p = none → Same H1 H2 → H2 p = some (.lst r) → N (.ref p) H2) → te ((wipe σ vs).set j (some x)) H1 N)
    (k : ∀ D H', Same H H' → FRows H H' D rows → Q (.ref D) H') :
    ∃ a', V.ref a = .ref a' ∧ ((∃ xs, SqL K H a' xs) ∧ CompOk (Itl K a') (gName j) tYes te vs σ H Q ∨ (∃ xs, SqT K H a' xs) ∧ CompOk (Itt K a') (gName j) tYes te vs σ H Q) := by
  refine l_compGS (b := b) xs hz (fun D i acc H' => Same H H' ∧ FRows H H' D (rows.take i)) hx hw (fun D hD => ⟨Same.new hD, FRows.nil hD⟩) (fun D i acc H' st => st.1.sq hx) (fun i x H1 D acc NT NF hi hxi hD st e1 hal hT hF => ?_) (fun D H' ys hD st e hly => ?_)
  · obtain ⟨s1, f1⟩ := st
    have hri : rows[i]? = some (rows[i]'(by omega)) := List.getElem?_eq_getElem (by omega)
    show te _ H1 NT
    refine hs i x _ H1 NT hi hxi hri s1 fun p H2 hp s2 ep => ?_
    obtain ⟨e2, f2⟩ := f1.next s1 e1 hp s2 ep
    refine hT _ H2 e2 ⟨Same.mut (s1.trans s2) hD, ?_⟩
    rw [List.take_add_one, hri]
    exact f2
  · rw [← hl, List.take_length] at st
    exact k D H' st.1 st.2
end
theorem w_setV {H : Hp} {p : Addr} {xs : List V} {k : Int} {v : V} {N : Hp → Prop} (h : H p = some (.lst xs)) (h0 : 0 ≤ k) (h1 : k < xs.length) (q : N (upd H p (.lst (xs.set k.toNat v)))) : rSetL (.ref p) (.int k) v H N := by
  refine ⟨p, xs, k, k.toNat, rfl, rfl, h, ?_, q⟩
  unfold ixN
  rw [if_pos h0, if_pos h1]
theorem RRows.updL {K : PySem.W.Frag} {H : Hp} {q : Addr} {xs : List V} {o : HO} {v : V} {rows : List (List V)} (hq : H q = some (.lst xs)) (h : RRows false false K H v rows) : RRows false false K (upd H q o) v rows :=
  RTup.upd (RSeq.tup RRw.tup) RRows.mono (NTup.lst hq) h
/-- all keyword-only parameters written -/
theorem kbind_of {K : PySem.W.Frag} {x qual : Str} {st : Stmt} {f : Addr} {fd : FuncData} {ps ks : List Str} {n : Nat} (F : Fun K x qual st f fd)
    (h : ∀ (kV doc pm : Value) (an : Option Addr) (cdv ct : Value) (us ws : List Value), us.length = n → ws.length = ks.length → bindArgs (PySem.W.fnOf x qual (defArgs st) (defBody st) (defScope st) .none kV doc pm an cdv ct) ⟨us, ks.zip ws⟩ = pure (ps.zip (us ++ ws))) :
    KBn K fd ps n ks (fun us ws => us ++ ws) (fun vs zs => vs ++ zs) := by
  obtain ⟨oc, od, kV, doc, pm, an, cdv, ct, osl, rfl, lk, hcd⟩ := F.ex
  exact ⟨fun s us ws X l1 l2 => .of_eq (h kV doc pm an cdv ct us ws l1 l2), fun r1 r2 => r1.append r2⟩
/-- one keyword-only parameter that lacks: its default is read off -/
theorem kbind_dflt {K : PySem.W.Frag} {x qual m : Str} {st : Stmt} {f D : Addr} {oc doc pm cdv ct u : Value} {od an : Option Addr} {osl : Array (Option Value)} {ps : List Str} (n : Nat) (hn : n + 1 = ps.length)
    (l : K.lookup f = some ⟨oc, od, .func (PySem.W.fnOf x qual (defArgs st) (defBody st) (defScope st) .none (.ref D) doc pm an cdv ct), osl⟩) (hd : PySem.W.nsIn K D m = some (some u))
    (h : ∀ (us : List Value), us.length = n → KwChain D [(m, u)] (bindArgs (PySem.W.fnOf x qual (defArgs st) (defBody st) (defScope st) .none (.ref D) doc pm an cdv ct) ⟨us, []⟩) (ps.zip (us ++ [u]))) :
    Binds K (PySem.W.fnOf x qual (defArgs st) (defBody st) (defScope st) .none (.ref D) doc pm an cdv ct) ps [u] := fun s us X hlen => by
  have l2 : us.length = n := by
    rw [List.length_append] at hlen
    have : us.length + 1 = ps.length := hlen
    omega
  exact BindsTo.of_looks fun M => KwChain.looks X (fun q hq => by
    rw [List.mem_singleton.mp hq]
    exact hd) (h us l2)
section
variable {K : PySem.W.Frag} {σ : St} {H : Hp} {te : TE} {vs : List Nat} {Q : VK}
/-- a comprehension over enumerate that gives numbers -/
theorem c_intsE {b : Bool} {a : Addr} {i1 i2 : Nat} (xs : List V) (hx : Sq b K H a xs) (ms : List Int) (hl : ms.length = xs.length) (hz : xs.length < sizeLine) (hw : ∀ x y : V, wipe (((wipe σ vs).set i1 (some x)).set i2 (some y)) vs = wipe σ vs)
    (hs : ∀ (i : Nat) x H1 (N : VK), i < xs.length → xs[i]? = some x → Same H H1 → (∀ H4, Same H1 H4 → N (.int (nth ms (i : Nat))) H4) → te (((wipe σ vs).set i1 (some (.int (i : Int)))).set i2 (some x)) H1 N)
    (k : ∀ D H', H D = none → Same H H' → H' D = some (.lst (ms.map V.int)) → Q (.ref D) H') :
    ∃ a', [V.ref a] = [.ref a'] ∧ ((∃ xs, SqL K H a' xs) ∧ CompOk (Ite K a') (gTup K 2 (gCons (gName i1) (gCons (gName i2) gNil))) tYes te vs σ H Q ∨ (∃ xs, SqT K H a' xs) ∧ CompOk (IteT K a') (gTup K 2 (gCons (gName i1) (gCons (gName i2) gNil))) tYes te vs σ H Q) := by
  have body : ∀ (i : Nat) (v : V) H1 (T D : Addr) acc (NT : VK), i < xs.length → xs[i]? = some v → H D = none → (Same H H1 ∧ acc.length = i ∧ ∀ (j : Nat) y, acc[j]? = some y → y = .int (nth ms (j : Nat))) → H1 D = some (.lst acc) → H1 T = none →
      (∀ y H5, H5 D = some (.lst acc) → (Same H (upd H5 D (.lst (acc ++ [y]))) ∧ (acc ++ [y]).length = i + 1 ∧ ∀ (j : Nat) z, (acc ++ [y])[j]? = some z → z = .int (nth ms (j : Nat))) → NT y H5) →
      te (((wipe σ vs).set i1 (some (.int (i : Int)))).set i2 (some v)) (upd H1 T (.tup [.int (i : Int), v])) NT := fun i v H1 T D acc NT hi hv hD st e1 hT hN => by
    obtain ⟨s1, hal, hac⟩ := st
    have sT := s1.trans (Same.new (o := .tup [.int (i : Int), v]) hT)
    refine hs i v _ NT hi hv sT fun H4 s4 => hN _ H4 (s4 _ _ (Same.new hT _ _ e1)) ⟨Same.mut (sT.trans s4) hD, by rw [List.length_append, hal]; rfl, fun j z hj => ?_⟩
    by_cases hlt : j < acc.length
    · rw [List.getElem?_append_left hlt] at hj
      exact hac j z hj
    · have h1 := (List.getElem?_eq_some_iff.mp hj).1
      rw [List.length_append] at h1
      have ej : j = acc.length := by
        have : j < acc.length + 1 := h1
        omega
      subst ej
      rw [List.getElem?_append_right (Nat.le_refl _), Nat.sub_self] at hj
      cases hj
      rw [hal]
  refine ⟨a, rfl, ?_⟩
  cases b with
  | true =>
    refine .inl ⟨⟨xs, hx⟩, l_compG (walk_enum (xs := xs)) hz (fun D i acc H' => Same H H' ∧ acc.length = i ∧ ∀ (j : Nat) y, acc[j]? = some y → y = .int (nth ms (j : Nat))) (fun D hD => ⟨Same.new hD, rfl, fun j y e => by simp at e⟩) (fun D i acc H' st => st.1.sq hx) (fun i x H1 H2 D acc NT NF hi hD st e1 hal hy hT hF => ?_) (fun D H' ys hD st e hly => ?_)⟩
    · obtain ⟨T, u, v, rfl, hTn, e, hu, hv⟩ := hy
      cases hu
      subst e
      refine w_pair (Sq.tup upd_same) ⟨hw _ _, ?_⟩
      show te _ _ NT
      exact body i v H1 T D acc NT hi hv hD st e1 hTn hT
    · exact k D H' hD st.1 (by rw [e, vec_of (by omega) st.2.2])
  | false =>
    refine .inr ⟨⟨xs, hx⟩, l_compG (walk_enumT (xs := xs)) hz (fun D i acc H' => Same H H' ∧ acc.length = i ∧ ∀ (j : Nat) y, acc[j]? = some y → y = .int (nth ms (j : Nat))) (fun D hD => ⟨Same.new hD, rfl, fun j y e => by simp at e⟩) (fun D i acc H' st => st.1.sq hx) (fun i x H1 H2 D acc NT NF hi hD st e1 hal hy hT hF => ?_) (fun D H' ys hD st e hly => ?_)⟩
    · obtain ⟨T, u, v, rfl, hTn, e, hu, hv⟩ := hy
      cases hu
      subst e
      refine w_pair (Sq.tup upd_same) ⟨hw _ _, ?_⟩
      show te _ _ NT
      exact body i v H1 T D acc NT hi hv hD st e1 hTn hT
    · exact k D H' hD st.1 (by rw [e, vec_of (by omega) st.2.2])
end
end L2

namespace PySem.W
open PySem PySem.Spec PySem.Calls PyProof.Rows
/-! ### isinstance of a caught error that has a dict of its own -/
section
variable {prog : Program} {w : World} {A : Around} {E : Value → Shared → Prop} {s : Shared} {K : Frag} {x D : Addr} {ox od : Obj}
theorem kin_classX {Q : Option Value → Shared → Prop} (hga : findIn K (.ref D) "__getattribute__" = some (some (.builtin "BaseException.__getattribute__"))) (hgt : findIn K (.ref D) "__getattr__" = some none) (hsub : subIn K (.ref D) (.type "BaseException") = some true)
    (hdct : hasDictIn K D = true) (ha : findIn K (.ref D) "__class__" = some (some (.builtin "object.__class__")))
    (hn : specialIn K (.builtin "object.__class__") "__get__" = some (some (.builtin "getset_descriptor.__get__"))) (htk : takesIn K (.builtin "object.__class__") = some true) (hm : mroIn K D (.type "object") = some true)
    (X : K.In s.heap) (I : InstAt s.heap x ox D (some od)) (h : Q (some (.ref D)) { s with toks := s.toks + 1 }) : wpAny (model prog w) A (getAttr? (.ref x) "__class__") Q E s := by
  have hf : findObj K D (some od) "__class__" = some (.bind (.builtin "getset_descriptor.__get__") (.builtin "object.__class__")) := findObj_data (by obtain ⟨cd, hc, _⟩ := any_some hdct; rw [hc]; rfl) ha hn htk
  obtain ⟨hp, g, d, t, os⟩ := s
  have L0 := I.type (M := model prog w)
  have L1 := looks_findIn (M := model prog w) X hga
  have L2 := looks_findIn (M := model prog w) X hgt
  have L3 := looks_find (M := model prog w) X I hf
  have sub : Looks (model prog w) hp (isInstance (.ref x) (.type "BaseException")) true := L0.andThen (looks_subIn X hsub)
  have hx0 : (false && onTheHeap (Value.builtin "BaseException.__getattribute__")) = false := rfl
  have hx2 : (Value.builtin "BaseException.__getattribute__" == Value.builtin "object.__getattribute__") = false := by decide +kernel
  have hx1 : (onTheHeap (Value.ref D) && Value.builtin "BaseException.__getattribute__" == Value.builtin "object.__getattribute__") = false := by rw [hx2]; rfl
  unfold getAttr? getAttrBy? getAttrBy
  refine wpAny_bind (wpAny_mkText (wpAny_bind (wpAny_attempt (wpAny_holding (wpAny_bind (L0.at (wpAny_bind (L1.at ?_))))))))
  show wpAny _ _ (if (onTheHeap (Value.ref D) && Value.builtin "BaseException.__getattribute__" == Value.builtin "object.__getattribute__") = true then _ else _) _ _ _
  rw [hx1, if_neg Bool.false_ne_true]
  unfold getAttrByItsOwn hookBefore
  refine wpAny_bind ?_
  rw [if_pos (show onTheHeap (Value.ref D) = true from rfl)]
  refine L2.at ?_
  refine wpAny_bind (wpAny_attempt (wpAny_holding ?_))
  unfold callGetattribute
  rw [hx0, if_neg Bool.false_ne_true]
  unfold boundAndCalled
  rw [PySem.F.excAttr_ValueError.ga.bind (.ref x)]
  refine wpAny_bind (wpAny_pure ?_)
  show wpAny _ _ (call (.builtin "BaseException.__getattribute__") [.ref x, .str "__class__" t]) _ _ _
  refine wpAny_call (codeAny_call_builtin PySem.F.excAttr_ValueError.ga.plain PySem.F.entry_bexc_ga ?_)
  refine @check_slot (model prog w) _ _ ⟨hp, g, d, t + 1, os⟩ "BaseException.__getattribute__" "BaseException" "__getattribute__" (.ref x) [.str "__class__" t] [] _ (by decide +kernel) (by decide +kernel) sub (PySem.F.args_bexc_ga (.ref x) (.str "__class__" t)) ?_
  unfold Builtin.«object.__getattribute__»
  refine wpAny_bind (wpAny_of_eq (a := ((Value.ref x : Value), [Value.str "__class__" t])) (by first | rfl | (simp only [slotArgs]; rfl)) ?_)
  refine wpAny_bind (wpAny_pure (wpAny_bind (L0.at (wpAny_bind (L3.at ?_)))))
  show wpAny _ _ (holding [Value.builtin "object.__class__"] (call (.builtin "getset_descriptor.__get__") [.builtin "object.__class__", .ref x, .ref D]) >>= ret) _ _ _
  refine wpAny_bind (wpAny_holding (wpAny_call (class_get (s := ⟨hp, g, d, t + 1, os⟩) (ox := ox) (od := some od) X I hm ?_)))
  refine wpAny_pure ?_
  show wpAny _ _ (handedOut (.ref D)) _ _ _
  rw [handedOut_of (v := .ref D) rfl]
  first
    | exact wpAny_pure (wpAny_pure h)
    | exact wpAny_pure h
    | exact wpAny_pure (wpAny_bind (wpAny_pure (wpAny_pure h)))
theorem kitx_excX (hga : findIn K (.ref D) "__getattribute__" = some (some (.builtin "BaseException.__getattribute__"))) (hgt : findIn K (.ref D) "__getattr__" = some none) (hsub : subIn K (.ref D) (.type "BaseException") = some true) (hdct : hasDictIn K D = true) (ha : findIn K (.ref D) "__class__" = some (some (.builtin "object.__class__")))
    (hn : specialIn K (.builtin "object.__class__") "__get__" = some (some (.builtin "getset_descriptor.__get__"))) (htk : takesIn K (.builtin "object.__class__") = some true) (hm : mroIn K D (.type "object") = some true) :
    KitX K (.ref x) (.ref D) (fun h => InstAt h x ox D (some od)) where
  ty := fun _ _ _ I => I.type
  it := fun _ _ X _ => by
    obtain ⟨cdD, hcD, _⟩ := any_some hdct
    unfold clsIn at hcD
    split at hcD
    · rename_i c' d' cd' sl' ho
      intro A' Q' E' s' k q
      unfold isType loadHead
      exact wpAny_bind (wpAny_loadPart (k _ _ (X _ _ ho)) (wpAny_pure q))
    · cases hcD
  ne := (handS_kitx_exc (x := x) (ox := ox) hga hgt hsub hdct ha hn htk hm).ne
  ca := fun X I k => kin_classX hga hgt hsub hdct ha hn htk hm X I k
end
end PySem.W
namespace L2
open PySem PySem.Spec PyProof.Rows
/-- isinstance(e, c) or isinstance(e, (c1, ..)), e the error that the suite holds, its class cls, its dict d -/
def rIsX (K : PySem.W.Frag) (a : Addr) (cls : Value) (d : Option Addr) : List V → Hp → VK → Prop := fun xs H Q => ∃ (c : V) (C dd : Addr) (fs : List (Str × V)) (b : Bool), xs = [.ref a, c] ∧ cls = .ref C ∧ d = some dd ∧ H dd = some (.xd fs) ∧ ExcC K C ∧
  ((∃ cv, ClsV c cv ∧ PySem.W.kitOne K (.ref C) cv = some b) ∨ ∃ (tp : Addr) (cs : List V) (us : List Value), c = .ref tp ∧ H tp = some (.tup cs) ∧ Paired ClsV cs us ∧ PySem.W.kitAny K (.ref C) us = some b) ∧ Q (.bl b) H
theorem call_isX {X : Cx} {a : Addr} {oe : Obj} {cls : Value} {d : Option Addr} (hp : (a, oe) ∈ X.pn) (hz : Zc cls d oe) (hf : ∃ vs, oe.data = .fields vs) : CallR X (.builtin "isinstance") (rIsX X.K a cls d) := by
  intro pins s σ H xs us Q I r h
  obtain ⟨c, D, dd, fs, b, rfl, rfl, rfl, hdd, C, hc, q⟩ := h
  obtain ⟨u1, u2, rfl, r1, r2⟩ := vals2 r
  cases (show u1 = Value.ref a from r1)
  obtain ⟨hget, _⟩ := I.pin (a, oe) (List.mem_append_left _ hp)
  obtain ⟨vs, hv⟩ := hf
  have hx : ObjOk X.prog X.w H s.heap dd (.xd fs) := I.hok dd _ hdd
  obtain ⟨mA, hns, _⟩ := hx
  obtain ⟨od, ho, _⟩ := lookIn_ns hns
  have J : PySem.W.InstAt s.heap a oe D (some od) := ⟨hget, hz.1, by unfold PySem.W.notCls; rw [hv] <;> rfl, by rw [hz.2]; exact ho⟩
  have Z := PySem.W.kitx_excX (x := a) (ox := oe) (od := od) C.hg C.hk C.hs C.hd C.ha C.hn C.ht C.hm
  rcases hc with ⟨cv, kc, e⟩ | ⟨tp, cs, ws, rfl, hT, k, e⟩
  · have e2 := kc.eq r2
    subst e2
    exact PySem.W.kia_one Z I.kIn J e (fun z => nomatch z) fun tk => ⟨.bl b, H, I.kept (t' := tk) fun _ _ z => z, rfl, q⟩
  · cases (show u2 = Value.ref tp from r2)
    obtain ⟨_, its, rv, o, h1, h2, n, h3⟩ := (show ObjOk X.prog X.w H s.heap tp (.tup cs) from I.hok tp _ hT)
    have e3 := ClsV.all k rv
    subst e3
    obtain ⟨oc, od', dt, sl⟩ := o
    simp only at h2 h3
    subst h2 h3
    exact PySem.W.kia_tup Z I.kIn J h1 e (fun z => nomatch z) fun tk => ⟨.bl b, H, I.kept (t' := tk) fun _ _ z => z, rfl, q⟩
/-! ### calls within a try: what may be let out, at the slots as they stand -/
section
variable {X : Cx} {CX : CXT} {k : Nat} {f C : Addr} {fd : FuncData} {ps : List Str} {sp : Sp} {dvs : List V} {ds : List Value} {E : St → XK} {x m : Str} {p pos apos : Pos} {e o : Expr} {es : List Expr} {ta : TE} {t : TA}
theorem run_fnT {pins : List (Addr × Obj)} {σ : St} {H : Hp} {s : Shared} {Q : VK} {us : List Value} {vs : List V} (F : FnOk X.prog X.w X.K X.mg X.base CX k f fd ps sp) (hr : Room k X.A) (hb : Binds X.K fd ps ds) (hd : Vals dvs ds) (hx : PassesAt CX X σ (E σ))
    (I : Inv X pins σ H s) (r : Vals vs us) (h : sp (vs ++ dvs) H Q (E σ)) : wpAny (model X.prog X.w) X.A (call (.ref f) us) (EP X pins σ Q) X.xe s := by
  have r2 : Vals (vs ++ dvs) (us ++ ds) := r.append hd
  have hl : (us ++ ds).length = ps.length := by rw [← r2.length]; exact F.len _ _ _ _ h
  refine wpAny_call (codeAny_mono (F.run X.A X.stack s H ⟨us, []⟩ (us ++ ds) (vs ++ dvs) Q (E σ) hr I.env0 (hb s us I.kIn hl) r2 h) fun r s' hq => ?_)
  cases r with
  | error e => exact hx pins H s e s' I hq
  | ok fl =>
    cases fl with
    | ret u => exact I.after hq
    | next => exact False.elim hq
    | brk => exact False.elim hq
    | cont => exact False.elim hq
def tMethT (C : Addr) (m : Str) (sp : Sp) (dvs : List V) (E : St → XK) (ta : TE) (t : TA) : TE := fun σ H Q => ta σ H fun x H1 => ∃ a dx fs, x = .ref a ∧ H1 a = some (.ins C dx fs) ∧ fs.lookup m = none ∧ t σ H1 fun vs H2 => sp (x :: (vs ++ dvs)) H2 Q (E σ)
theorem pe_methT {pl : Sem Bool} (he : PE X o ta) (c : Cls X.K C) (hm : Meth X.K C m f) (F : FnOk X.prog X.w X.K X.mg X.base CX k f fd ps sp) (hr : Room k X.A) (hb : Binds X.K fd ps ds) (hd : Vals dvs ds) (hx : ∀ σ, PassesAt CX X σ (E σ)) (ha : PA X (e :: es) t)
    (hst : starEach (e :: es) X.env = (false, eval e X.env) :: starEach es X.env := by rfl) (hpl : (backTo pos (starEach es X.env)).any (·.1) = false := by rfl)
    (ht : eval (.Call (.Attribute o m apos) (e :: es) [] pos) X.env = (do
      let ov ← eval o X.env
      standAt apos.atName
      let (f, first) ← holding [ov] (getMethod ov m pl)
      callWith pos f first (backTo pos (starEach (e :: es) X.env)) (backToKw pos (keywordEach [] X.env))) := by rfl) :
    PE X (.Call (.Attribute o m apos) (e :: es) [] pos) (tMethT C m sp dvs E ta t) := by
  refine ⟨fun pins s σ H Q I h => ?_⟩
  refine PySem.W.methodCall_KW (pl := pl) (thn (he.run pins s σ H _ I h) fun u s1 ⟨x, H1, I1, rx, a, dx, fs, ex, ea, l, q⟩ => ?_) ht
  subst ex
  obtain rfl : u = Value.ref a := rx
  refine getmeth_ok I1 ea c hm l ?_
  refine PySem.W.callWith_K (first := [.ref a]) (h₀ := X.base) I.ok.mod.kin hm.kp (thn (ha.run pos pins s1 σ H1 _ I1 q) fun us s2 ⟨vs, H2, I2, r, q2⟩ => ⟨I2.kIn, ?_⟩) hst hpl
  exact run_fnT (us := .ref a :: us) (vs := .ref a :: vs) F hr hb hd (hx σ) I2 (.cons rfl r) q2
def tMakeT (C : Addr) (sp : Sp) (dvs : List V) (E : St → XK) (t : TA) : TE := fun σ H Q => t σ H fun vs H1 => ∀ x dx, H1 x = none → H1 dx = none → dx ≠ x → sp (.ref x :: (vs ++ dvs)) (upd (upd H1 dx (.own x)) x (.ins C dx [])) (fun v H2 => v = .non ∧ Q (.ref x) H2) (E σ)
theorem pe_makeT (M : Mk X.K C f) (F : FnOk X.prog X.w X.K X.mg X.base CX k f fd ps sp) (hr : Room (k + 1) X.A) (hg : Gl X x) (hm : X.mg x = some (.ref C)) (hb : Binds X.K fd ps ds) (hd : Vals dvs ds) (hx : ∀ σ, PassesAt CX X σ (E σ))
    (ha : PA X (e :: es) t) (hdb : (x == ("__debug__" : Str)) = false := by decide) (he : starEach (e :: es) X.env = (false, eval e X.env) :: starEach es X.env := by rfl) (hpl : (backTo pos (starEach es X.env)).any (·.1) = false := by rfl) :
    PE X (.Call (.Name x p) (e :: es) [] pos) (tMakeT C sp dvs E t) := by
  refine ⟨fun pins s σ H Q I h => ?_⟩
  refine wpAny_Call_Name_kw (ld_glob I hg hm ?_ hdb)
  refine PySem.W.callWith_K (h₀ := X.base) I.ok.mod.kin M.kp (thn (ha.run pos pins s σ H _ I h) fun us s1 ⟨vs, H1, I1, r, h⟩ => ⟨I1.kIn, ?_⟩) he hpl
  have hq := h (s1.heap.objs.size + 1) s1.heap.objs.size (I1.hok.fresh (Nat.le_succ _)) (I1.hok.fresh (Nat.le_refl _)) (Nat.ne_of_lt (Nat.lt_succ_self _))
  have I2 := Inv.made (C := C) I1
  have r2 : Vals (V.ref (s1.heap.objs.size + 1) :: (vs ++ dvs)) (Value.ref (s1.heap.objs.size + 1) :: (us ++ ds)) := .cons rfl (r.append hd)
  have hl : (Value.ref (s1.heap.objs.size + 1) :: us ++ ds).length = ps.length := by
    have e := r2.length
    rw [F.len _ _ _ _ hq] at e
    exact e.symm
  refine wpAny_call (make_map (f := f) I1.kIn M.makes M.init (beq_iff_eq.mp M.fn) (codeAny_mono (F.run _ X.stack _ _ ⟨Value.ref (s1.heap.objs.size + 1) :: us, []⟩ (Value.ref (s1.heap.objs.size + 1) :: (us ++ ds)) _ _ (E σ) (hr.make C us [])
    (I2.env0.make C us []) (hb _ (Value.ref (s1.heap.objs.size + 1) :: us) I2.kIn hl) r2 hq) fun r s' hq' => ?_))
  cases r with
  | error e => exact hx σ pins _ _ e s' I2 hq'
  | ok fl =>
    cases fl with
    | ret u =>
      obtain ⟨v, H', I3, rv, ev, q3⟩ := I2.after hq'
      subst ev
      exact ⟨rv, ⟨V.ref (s1.heap.objs.size + 1), H', I3, rfl, q3⟩⟩
    | next => exact False.elim hq'
    | brk => exact False.elim hq'
    | cont => exact False.elim hq'
end
/-! ### an own error of one field -/
/-- X(v): self.f = v; what __init__ promises -/
def spErr (K : PySem.W.Frag) (f : Str) : Sp := fun vs H Q _ => ∃ (a C : Addr) (v : V), vs = [.ref a, v] ∧ H a = some (exo a C none) ∧ OexC K C ∧ PySem.W.findIn K (.ref C) f = some none ∧ ∀ dx, H dx = none → dx ≠ a → Q .non (upd (upd H dx (exd dx [(f, v)])) a (exo a C (some dx)))
theorem upd_del (H : Hp) (a d : Addr) (o1 o2 o3 o4 : HO) (ha : H a = none) (hd : d ≠ a) : upd (del (upd (upd (upd H a o1) d o2) a o3) a) d o4 = upd H d o4 := by
  funext b
  by_cases h : b = d
  · subst h
    rw [upd_same, upd_same]
  · rw [upd_ne h, upd_ne h]
    by_cases h2 : b = a
    · subst h2
      rw [del_same, ha]
    · rw [del_ne h2, upd_ne h2, upd_ne h, upd_ne h2]
theorem w_mkErr {K : PySem.W.Frag} {C : Addr} {f : Str} {ta : TA} {σ : St} {H : Hp} {Q : XK} (o : OexC K C) (n : PySem.W.findIn K (.ref C) f = some none) (q : ta σ H fun vs H1 => ∃ v, vs = [v] ∧ ∀ d, H1 d = none → Q (.ref C) (some d) (upd H1 d (.xd [(f, v)]))) (hm : ∀ {QA QB : List V → Hp → Prop}, (∀ vs H1, QA vs H1 → QB vs H1) → ta σ H QA → ta σ H QB) : tMkO C (spErr K f) [] ta σ H Q := by
  refine hm (fun vs H1 ⟨v, ev, hq⟩ => ?_) q
  subst ev
  refine ⟨by show 1 ≤ 1000; omega, fun a ha => ⟨a, C, v, rfl, upd_same, o, n, fun dx hdx hne => ?_⟩⟩
  rw [upd_ne hne] at hdx
  refine ⟨rfl, dx, [(f, v)], upd_same, (upd_ne hne).trans upd_same, hdx, ?_⟩
  rw [upd_del H1 a dx _ _ _ _ ha hne]
  exact hq dx hdx
end L2

namespace L2
open PySem PySem.Spec PyProof.Rows
/-! ### own errors: what is asked of their classes; readings -/
structure ErrN (K : PySem.W.Frag) (C : Addr) : Prop where
  isc : PySem.W.isClsIn K C = true
  typ : PySem.W.typeIn K (.ref C) = some (.type "type")
  exB : PySem.W.subIn K (.ref C) (.type "BaseException") = some true
  hd : PySem.W.hasDictIn K C = true
section
variable {K : PySem.W.Frag} {C D : Addr} {H : Hp} {Q : VK} {b : Bool} {a dd : Addr} {fs : List (Str × V)} {σ : St}
theorem kit_sub (e : ErrN K D) (self : PySem.W.subIn K (.ref C) (.ref C) = some true) (h : PySem.W.subIn K (.ref C) (.ref D) = some b) : PySem.W.kitOne K (.ref C) (.ref D) = some b := by
  unfold PySem.W.kitOne
  by_cases q : C = D
  · subst q
    rw [self] at h
    cases h
    exact if_pos (beq_self_eq_true _)
  · rw [if_neg (by intro z; exact q (Value.ref.inj (beq_iff_eq.mp z)))]
    have h1' : (PySem.W.clsIn K D).isSome = true := e.isc
    show (if ((PySem.W.clsIn K D).isSome && PySem.W.typeIn K (.ref D) == some (.type "type")) = true then PySem.W.subIn K (.ref C) (.ref D) else none) = some b
    rw [if_pos (by rw [h1', e.typ]; rfl)]
    exact h
theorem kit_VE (h : PySem.W.subIn K (.ref C) (.type "ValueError") = some true) : PySem.W.kitOne K (.ref C) (.type "ValueError") = some true := by
  unfold PySem.W.kitOne
  rw [if_neg (by intro z; cases (beq_iff_eq.mp z))]
  show (if PySem.W.kitMeta "ValueError" = true then PySem.W.subIn K (.ref C) (.type "ValueError") else none) = some true
  rw [if_pos (by decide +kernel)]
  exact h
theorem kit_nil : PySem.W.kitAny K (.ref C) [] = some false := rfl
theorem kit_cons {c : Value} {r : List Value} (h : PySem.W.kitOne K (.ref C) c = some false) (h2 : PySem.W.kitAny K (.ref C) r = some b) : PySem.W.kitAny K (.ref C) (c :: r) = some b := by
  unfold PySem.W.kitAny
  rw [h]
  exact h2
theorem kit_hit {c : Value} {r : List Value} (h : PySem.W.kitOne K (.ref C) c = some true) : PySem.W.kitAny K (.ref C) (c :: r) = some true := by
  unfold PySem.W.kitAny
  rw [h]
theorem exm_sub (e : ErrN K D) (h : PySem.W.subIn K (.ref C) (.ref D) = some b) : PySem.W.exmOne K (.ref C) (.ref D) = some b := PySem.W.exm_ref e.exB e.hd e.typ h
theorem w_isX (hd : H dd = some (.xd fs)) (ec : ExcC K C) (e : ErrN K D) (self : PySem.W.subIn K (.ref C) (.ref C) = some true) (h : PySem.W.subIn K (.ref C) (.ref D) = some b) (q : Q (.bl b) H) : rIsX K a (.ref C) (some dd) [.ref a, .ref D] H Q :=
  ⟨_, C, dd, fs, b, rfl, rfl, rfl, hd, ec, .inl ⟨_, .own D, kit_sub e self h⟩, q⟩
theorem w_isXV (hd : H dd = some (.xd fs)) (ec : ExcC K C) (h : PySem.W.subIn K (.ref C) (.type "ValueError") = some true) (q : Q (.bl true) H) : rIsX K a (.ref C) (some dd) [.ref a, .ty "ValueError"] H Q :=
  ⟨_, C, dd, fs, true, rfl, rfl, rfl, hd, ec, .inl ⟨_, .ty _, kit_VE h⟩, q⟩
theorem w_isXT {tp : Addr} {cs : List V} {us : List Value} (hd : H dd = some (.xd fs)) (ec : ExcC K C) (ht : H tp = some (.tup cs)) (hp : Paired ClsV cs us) (hk : PySem.W.kitAny K (.ref C) us = some b) (q : Q (.bl b) H) : rIsX K a (.ref C) (some dd) [.ref a, .ref tp] H Q :=
  ⟨_, C, dd, fs, b, rfl, rfl, rfl, hd, ec, .inr ⟨tp, cs, us, rfl, ht, hp, hk⟩, q⟩
theorem w_xf {f : Str} {te : TE} {v : V} (q : te σ H fun x H1 => x = .ref a ∧ H1 dd = some (.xd fs) ∧ fs.lookup f = some v ∧ Q v H1) (hm : ∀ {QA QB : VK}, (∀ x H1, QA x H1 → QB x H1) → te σ H QA → te σ H QB) : tXf a (.ref C) (some dd) C f te σ H Q :=
  hm (fun _ _ ⟨h1, h2, h3, h4⟩ => ⟨h1, rfl, dd, fs, v, rfl, h2, h3, h4⟩) q
theorem w_xfV {f : Str} {i : Nat} {v : V} (hi : σ[i]? = some (some (.ref a))) (hd : H dd = some (.xd fs)) (hl : fs.lookup f = some v) (q : Q v H) : tXf a (.ref C) (some dd) C f (tVar i) σ H Q :=
  ⟨.ref a, hi, rfl, rfl, dd, fs, v, rfl, hd, hl, q⟩
theorem w_mkErrV {f : Str} {i : Nat} {v : V} {QX : XK} (o : OexC K C) (n : PySem.W.findIn K (.ref C) f = some none) (h : σ[i]? = some (some v)) (q : ∀ d, H d = none → QX (.ref C) (some d) (upd H d (.xd [(f, v)]))) : tMkO C (spErr K f) [] (tCons (tVar i) tNil) σ H QX :=
  w_mkErr o n ⟨v, h, ⟨v, rfl, q⟩⟩ fun hq ⟨x, hx, z⟩ => ⟨x, hx, hq _ _ z⟩
theorem w_makeT {C : Addr} {sp : Sp} {dvs : List V} {E : L2.St → XK} {t : TA} {σ : L2.St} {H : Hp} {Q : VK} (q : t σ H fun vs H1 => ∀ x dx, H1 x = none → H1 dx = none → dx ≠ x → sp (.ref x :: (vs ++ dvs)) (upd (upd H1 dx (.own x)) x (.ins C dx [])) (fun v H2 => v = .non ∧ Q (.ref x) H2) (E σ)) : tMakeT C sp dvs E t σ H Q := q
theorem w_methT {C : Addr} {m : Str} {sp : Sp} {dvs : List V} {E : L2.St → XK} {ta : TE} {t : TA} {σ : L2.St} {H : Hp} {Q : VK} (q : ta σ H fun x H1 => ∃ a dx fs, x = .ref a ∧ H1 a = some (.ins C dx fs) ∧ fs.lookup m = none ∧ t σ H1 fun vs H2 => sp (x :: (vs ++ dvs)) H2 Q (E σ)) : tMethT C m sp dvs E ta t σ H Q := q
theorem w_callS {sp : Sp} {E : L2.St → XK} {t : TA} {σ : L2.St} {H : Hp} {Q : VK} (q : t σ H fun vs H1 => sp vs H1 Q (E σ)) : tCallS sp E t σ H Q := q
end
end L2

namespace L2
open PySem PySem.Spec PyProof.Rows
/-! ### defs that may ask for the repr of lists and tuples: they are called where no repr is under way -/
/-- as FnOk, but only where no repr is under way -/
structure FnG (P : Program) (w : World) (K : PySem.W.Frag) (mg : Str → Option Value) (base : Heap) (CX : CXT) (k : Nat) (f : Addr) (fd : FuncData) (ps : List Str) (sp : Sp) : Prop where
  len : ∀ vs H Q E, sp vs H Q E → vs.length = ps.length
  run : ∀ (A : Around) (outer : List Env) (s : Shared) (H : Hp) (args : Args) (us : List Value) (vs : List V) (Q : VK) (E : XK), A.guards = some [] → Room k A → Env0 P w K mg base A outer s H → BindsTo s fd args (ps.zip us) → Vals vs us → sp vs H Q E →
    codeAny (model P w) A (.call (.ref f) args) (CR CX outer P w H s Q E) s
section
variable {P : Program} {w : World} {K : PySem.W.Frag} {mg : Str → Option Value} {base : Heap} {CX : CXT}
theorem FnOk.toG {k : Nat} {f : Addr} {fd : FuncData} {ps : List Str} {sp : Sp} (F : FnOk P w K mg base CX k f fd ps sp) : FnG P w K mg base CX k f fd ps sp := ⟨F.len, fun A outer s H args us vs Q E _ hr => F.run A outer s H args us vs Q E hr⟩
/-- the body of such a def -/
theorem Fun.okG {x qual : Str} {st : Stmt} {f : Addr} {fd : FuncData} {N ps : List Str} {k : Nat} {sp : Sp} (F : Fun K x qual st f fd) (S : FnScope N ps (defScope st)) (len : ∀ vs H Q E, sp vs H Q E → vs.length = ps.length)
    (hbody : ∀ (cdv : Value) (A : Around) (outer : List Env) (s : Shared) (H : Hp) (vs : List V) (Q : VK) (E : XK), A.guards = some [] → Room k (A.deeper (envOfC qual (defScope st) s.heap.objs.size f cdv)) → sp vs H Q E →
      ∃ t, PSs (cxOf CX0 P w K mg base N qual (defScope st) f cdv A outer s H E).nox (defBody st) t ∧ t { nx := fun _ H' => Q .non H', rt := Q } (start N vs) H) : FnG P w K mg base CX0 (k + 1) f fd ps sp := by
  obtain ⟨oc, od, kV, doc, pm, an, cdv, ct, osl, rfl, lk, hcd⟩ := F.ex
  refine ⟨len, fun A outer s H args us vs Q E hA hr e0 hb r hsp => ?_⟩
  have hl := len _ _ _ _ hsp
  have kept : ∀ b o, base.get? b = some o → s.heap.get? b = some o := fun b o e => (e0.bs b o e).1
  have seen := e0.mod.kin.keeps kept
  refine codeAny_call_function hr.depth (seen _ _ lk) rfl S.co S.gen rfl (PySem.W.codeRec_of seen hcd) (hb _ _ _ _ (wpAny_newFunctionEnv_cells S.kind (fun ⟨n, v⟩ hy => ?_) fun env he s1 x => ?_))
  · exact (S.par n (List.of_mem_zip hy).1).imp id fun q => ⟨q, PySem.W.cellsFrom_some _ _ _ (.inl q)⟩
  · subst he
    obtain ⟨t, ht, hq⟩ := hbody cdv A outer s H vs Q E hA (hr.deeper _) hsp
    have I := inv_start (CX := CX0) (E := E) S hr.hd e0 hl r x
    refine ⟨(e0.mod.nolimit.keeps kept).keeps x.toInCall.keep, codeAny_func (wpAny_mono (ht.nox.run [] s1 (start N vs) H _ I hq) (fun fl s' hs => ?_) fun _ _ hs => hs)⟩
    cases fl with
    | next =>
      obtain ⟨_, H', J, q⟩ := hs
      exact ⟨.non, H', J.os, J.bare, J.base, J.hok, rfl, q⟩
    | ret u =>
      obtain ⟨v, _, H', J, rv, q⟩ := hs
      exact ⟨v, H', J.os, J.bare, J.base, J.hok, rv, q⟩
    | brk =>
      obtain ⟨_, _, _, q⟩ := hs
      exact q.elim
    | cont =>
      obtain ⟨_, _, _, q⟩ := hs
      exact q.elim
end
section
variable {X : Cx} {CX : CXT} {k : Nat} {f : Addr} {fd : FuncData} {ps : List Str} {sp : Sp} {E : XK} {x : Str} {p pos : Pos} {e : Expr} {es : List Expr} {t : TA}
/-- f(e, ..) of such a def -/
theorem pe_callG (F : FnG X.prog X.w X.K X.mg X.base CX k f fd ps sp) (hA : X.A.guards = some []) (hr : Room k X.A) (hg : Gl X x) (hm : X.mg x = some (.ref f)) (hk : PySem.W.keepIn X.K (.ref f) = true) (hb : Binds X.K fd ps []) (hx : Passes CX X E)
    (ha : PA X (e :: es) t) (hdb : (x == ("__debug__" : Str)) = false := by decide) (he : starEach (e :: es) X.env = (false, eval e X.env) :: starEach es X.env := by rfl) (hpl : (backTo pos (starEach es X.env)).any (·.1) = false := by rfl) :
    PE X (.Call (.Name x p) (e :: es) [] pos) (tCall sp [] E t) := by
  refine ⟨fun pins s σ H Q I h => wpAny_Call_Name_kw (ld_glob I hg hm ?_ hdb)⟩
  refine PySem.W.callWith_K (h₀ := X.base) I.ok.mod.kin hk (thn (ha.run pos pins s σ H _ I h) fun us s1 ⟨vs, H1, J, r, q⟩ => ⟨J.kIn, ?_⟩) he hpl
  have q : sp vs H1 Q E := by
    have h : sp (vs ++ []) H1 Q E := q
    rwa [List.append_nil] at h
  show wpAny _ _ (call (.ref f) us) _ _ _
  have b := hb s1 us J.kIn (by rw [List.append_nil, ← r.length]; exact F.len _ _ _ _ q)
  rw [List.append_nil] at b
  refine wpAny_call (codeAny_mono (F.run X.A X.stack s1 H1 ⟨us, []⟩ us vs Q E hA hr J.env0 b r q) fun r' s' z => ?_)
  match r', z with
  | .error e, z => exact hx pins σ H1 s1 e s' J z
  | .ok (.ret u), z => exact J.after z
  | .ok .next, z => exact False.elim z
  | .ok .brk, z => exact False.elim z
  | .ok .cont, z => exact False.elim z
/-- repr(v) of plain data -/
def rRepr (K : PySem.W.Frag) : List V → Hp → VK → Prop := fun xs H Q => ∃ (x : V) (d : PyData), xs = [x] ∧ Dp K H x d ∧ d.showable = true ∧ d.hasDict = false ∧ d.depth ≤ 30 ∧ (d.shown.length ≤ 10000 ∨ ∃ i, d = .int i) ∧ Q (.str d.shown) H
theorem call_reprG {X : Cx} (hA : X.A.guards = some []) (hu : X.A.units + 64 < cLine) : CallR X (.builtin "repr") (rRepr X.K) := by
  intro pins s σ H xs us Q I r h
  obtain ⟨x, d, rfl, hd, hs, hn, hdp, hz, q⟩ := h
  obtain ⟨u, rfl, rx⟩ := vals1 r
  obtain ⟨as, rd⟩ := Dp.reads I d x u hd rx
  have fits : (∀ i, d ≠ .int i) → d.shown.length ≤ sizeLine := fun h => by
    rcases hz with z | ⟨i, z⟩
    · rw [sizeLine_eq]; omega
    · exact absurd z (h i)
  cases hd with
  | non => cases (show u = Value.none from rx); exact PySem.P.repr_of_none ⟨.str (PyData.shown .none), H, I.tok _, ⟨_, rfl⟩, q⟩
  | bl b => cases (show u = Value.bool b from rx); exact PySem.P.repr_of_bool ⟨.str (PyData.shown (.bool b)), H, I.tok _, ⟨_, rfl⟩, q⟩
  | int i =>
    obtain ⟨t, rfl⟩ := (show ∃ t, u = Value.int i t from rx)
    exact PySem.P.repr_of_int (of_decide_eq_true hs) ⟨.str (PyData.shown (.int i)), H, I.tok _, ⟨_, rfl⟩, q⟩
  | str z =>
    obtain ⟨t, rfl⟩ := (show ∃ t, u = Value.str z t from rx)
    exact PySem.P.repr_of_str ⟨.str (PyData.shown (.str z)), H, I.tok _, ⟨_, rfl⟩, q⟩ (fits fun _ z => by cases z)
  | lst _ _ =>
    cases (show u = Value.ref _ from rx)
    exact repr_of_reads' rd hs (fun z => by rw [hn] at z; cases z) hA (by omega) (fun _ _ e => e) (fun h' t tk hk => ⟨.str (PyData.shown _), H, I.kept hk, ⟨_, rfl⟩, q⟩) (fits fun _ z => by cases z)
  | tup _ _ =>
    cases (show u = Value.ref _ from rx)
    exact repr_of_reads' rd hs (fun z => by rw [hn] at z; cases z) hA (by omega) (fun _ _ e => e) (fun h' t tk hk => ⟨.str (PyData.shown _), H, I.kept hk, ⟨_, rfl⟩, q⟩) (fits fun _ z => by cases z)
end
end L2
namespace L2
open PySem PySem.Spec PyProof.Rows
/-- the law's def, asked at the top, where no repr is under way -/
theorem law_askG {P : Program} {w : World} {K : PySem.W.Frag} {mg mb : Str → Option Value} {CX : CXT} {k : Nat} {fa a : Addr} {fd : FuncData} {x : Str} {sp : Sp} {s₁ : Shared} {vs : List Value} {ns : List Int}
    (KX : K.In s₁.heap) (hns : s₁.heap.Ns mainGlobals mg) (hb : s₁.heap.Ns builtinsNs mb) (hbb : ∀ x : Str, x ≠ "__name__" → mb x = bootBuiltins x) (hlim : s₁.heap.NoLimit) (hg : s₁.gens = #[])
    (ha : s₁.heap.get? a = some { cls := .type "list", data := .seq vs.toArray }) (hi : IntsAre vs ns) (hl : ns.length ≤ sizeLine) (hr : Room k callerA)
    (F : ∀ base : Heap, K.In base → base.Ns mainGlobals mg → FnG P w K mg base CX k fa fd [x] sp) (hbind : ∀ (s : Shared) (u : Value), BindsTo s fd ⟨[u], []⟩ [(x, u)])
    (hsp : ∀ H : Hp, Only H → SqL K H a (ns.map V.int) → sp [.ref a] H (fun v _ => v = .bl true) fun _ _ _ => False)
    (hCX : ∀ H e s', CX [] H s₁ (fun _ _ _ => False) e s' → False) :
    codeAny (model P w) callerA (.call (.ref fa) ⟨[.ref a], []⟩) (fun r s' => r = .ok (.ret (.bool true)) ∧ OldK s₁.heap s'.heap ∧ s'.os = s₁.os ∧ AllBare s'.gens) s₁ := by
  have rv := vals_ints hi
  -- what is told of the heap: the script, if it is none of the module's own objects
  obtain ⟨H, hH, hS, hok, hK⟩ : ∃ H : Hp, (∀ b, H b = none ∨ (b = a ∧ ∃ o xs, H b = some (.frz o (.lst xs)))) ∧ SqL K H a (ns.map V.int) ∧ HOk P w H s₁.heap ∧ (∀ b o, K.lookup b = some o → H b = none) := by
    cases hk : K.lookup a with
    | some o =>
      obtain rfl : o = { cls := .type "list", data := .seq vs.toArray } := Option.some.inj ((KX a o hk).symm.trans ha)
      exact ⟨fun _ => none, fun _ => .inl rfl, .inr ⟨_, vs.toArray, _, hk, rfl, rfl, rfl, by rw [List.size_toArray, hi.length]; exact hl, rv⟩, fun _ _ z => (by cases z), fun _ _ _ => rfl⟩
    | none =>
      refine ⟨fun b => if b = a then some (.frz { cls := .type "list", data := .seq vs.toArray } (.lst (ns.map V.int))) else none, fun b => ?_, .inl (.inr ⟨_, if_pos rfl⟩), fun b u z => ?_, fun b o hb => ?_⟩
      · by_cases e : b = a
        · exact .inr ⟨e, _, _, if_pos e⟩
        · exact .inl (if_neg e)
      · by_cases e : b = a
        · subst e
          cases (if_pos rfl).symm.trans z
          exact ⟨ha, by rw [List.length_map]; exact hl, vs, _, rv, ha⟩
        · cases (if_neg e).symm.trans z
      · refine if_neg fun e => ?_
        rw [e, hk] at hb
        cases hb
  have hO : Only H := fun b => (hH b).imp id fun h => h.2
  -- the ground: all but the script
  have keepNs : ∀ {b : Addr} {m : Str → Option Value}, s₁.heap.Ns b m → (hidT s₁.heap H).Ns b m := fun {b m} ⟨o, es, ep, e, d, r⟩ => by
    refine ⟨o, es, ep, hidT_get e ?_, d, r⟩
    rcases hH b with h | ⟨rfl, _⟩
    · exact h
    · cases ha.symm.trans e
      cases (show Data.seq vs.toArray _ = Data.dict es ep from d)
  have inK : K.In (hidT s₁.heap H) := fun b o e => hidT_get (KX b o e) (hK b o e)
  obtain ⟨mc, l1, l2⟩ := hlim
  have e0 : Env0 P w K mg (hidT s₁.heap H) callerA [] s₁ H := ⟨rfl, ⟨inK, keepNs hns, ⟨mb, keepNs hb, hbb⟩, ⟨mc, keepNs l1, l2⟩⟩, fun _ _ e => of_hidT e, Nat.le_of_eq (hidT_size _ _), trivial, fun _ z => (nomatch (show _ ∈ ([] : List Addr) from z)), hok, .of_eq hg⟩
  refine codeAny_mono ((F _ inK (keepNs hns)).run callerA [] s₁ H ⟨[.ref a], []⟩ [.ref a] [.ref a] _ _ rfl hr e0 (hbind s₁ (.ref a)) (.cons rfl .nil) (hsp H hO hS)) fun r s' h => ?_
  match r, h with
  | .error e, h => exact (hCX H e s' h).elim
  | .ok .next, h => exact False.elim h
  | .ok .brk, h => exact False.elim h
  | .ok .cont, h => exact False.elim h
  | .ok (.ret u), h =>
    obtain ⟨v, H', os, bare, un, hok', rv', hv⟩ := h
    obtain rfl : v = .bl true := hv
    obtain rfl : u = Value.bool true := rv'
    refine ⟨rfl, OldK.of_keep fun b o e => ?_, os, bare⟩
    rcases hH b with hb0 | ⟨_, ob, xs, hb0⟩
    · exact un.keep b o e hb0 (fun z => (nomatch (show b ∈ ([] : List Addr) from z))) (by simp)
    · obtain ⟨g1, _⟩ := hok b _ hb0
      cases g1.symm.trans e
      exact (hok' b _ (un.frzs b _ _ hb0)).1
theorem walk_ofG {l : PySem.W.OpenLaw} {n k : Nat} {q : Program} {loose : List Str} {XP : (Str → Option Value) → Heap → Prop} {YP : World → Heap → Prop} {d : DefRec} {K : Params → PySem.W.Frag} {CX : World → CXT} {sp : World → Sp} {x : Str}
    (hn : l.most = some n) (hn2 : n ≤ sizeLine) (hdf : d.params.defaults = []) (hr : Room k callerA) (hY : ∀ (w : World) (h : Heap), YP w h → (K w.params).In h)
    (F : ∀ (w : World) (mg : Str → Option Value) (fa : Addr) (h : Heap), (K w.params).In h → h.Ns mainGlobals mg → mg d.name = some (.ref fa) →
      ∃ fd : FuncData, (∀ (s : Shared) (u : Value), BindsTo s fd ⟨[u], []⟩ [(x, u)]) ∧ ∀ base : Heap, (K w.params).In base → base.Ns mainGlobals mg → FnG l.prog w (K w.params) mg base (CX w) k fa fd [x] (sp w))
    (hsp : ∀ (w : World) (H : Hp) (a : Addr) (ns : List Int), ns.length ≤ n → Only H → SqL (K w.params) H a (ns.map V.int) → sp w [.ref a] H (fun v _ => v = .bl true) fun _ _ _ => False)
    (hCX : ∀ (w : World) (H : Hp) (s : Shared) (e : Value) (s' : Shared), CX w [] H s (fun _ _ _ => False) e s' → False) :
    PySem.W.WalkO q loose XP YP l.row.toRowW d [] (fun f vs => PySem.call f vs) :=
  Att.attach_call hn hdf fun w s₀ s₁ mg mb fa o pm cd doc a vs ns G Y ho hd hcd hmg hobj hints hlen hg => by
    obtain ⟨fd, hb, hF⟩ := F w mg fa _ (hY w _ Y) G.T.g hmg
    exact law_askG (hY w _ Y) G.T.g G.T.b G.T.builtins G.T.nolimit hg hobj hints (Nat.le_trans hlen hn2) hr hF hb (fun H hO hS => hsp w H a ns hlen hO hS) fun H e s' => hCX w H s₁ e s'
end L2

namespace L2
open PySem PySem.Spec PyProof.Rows
/-! ### own errors whose context is told: raised, caught, handed on to a def -/
section
variable {P : Program} {w : World} {K : PySem.W.Frag} {mg : Str → Option Value} {base : Heap}
/-- a def that may raise -/
theorem Fun.okN {x qual : Str} {st : Stmt} {f : Addr} {fd : FuncData} {N ps : List Str} {k : Nat} {sp : Sp} (F : Fun K x qual st f fd) (S : FnScope N ps (defScope st)) (len : ∀ vs H Q E, sp vs H Q E → vs.length = ps.length)
    (hbody : ∀ (cdv : Value) (A : Around) (outer : List Env) (s : Shared) (H : Hp) (vs : List V) (Q : VK) (E : XK), Room k (A.deeper (envOfC qual (defScope st) s.heap.objs.size f cdv)) → sp vs H Q E →
      ∃ t, PSs (cxOf (L2N.CX P w) P w K mg base N qual (defScope st) f cdv A outer s H E) (defBody st) t ∧ t { nx := fun _ H' => Q .non H', rt := Q } (start N vs) H) : FnOk P w K mg base (L2N.CX P w) (k + 1) f fd ps sp := by
  obtain ⟨oc, od, kV, doc, pm, an, cdv, ct, osl, rfl, lk, hcd⟩ := F.ex
  exact fn_of lk hcd S len (hbody cdv)
theorem passN {X : Cx} : Passes (L2N.CX X.prog X.w) X E0 := fun _ _ _ _ _ _ _ ⟨_, _, _, _, _, _, _, _, _, _, _, _, z⟩ => z.elim
theorem takesN0 {X : Cx} : L2N.Takes X (fun _ _ _ _ => False) := fun _ _ ⟨_, _, _, _, _, _, _, _, _, _, _, _, _, _, _, _, z⟩ => z.elim
/-- an own error made by its own __init__, its context told -/
theorem pmk_oexN {X : Cx} {CX : CXT} {x : Str} {e : Expr} {es : List Expr} {ta : TA} {p pos : Pos} {C fI : Addr} {k : Nat} {fd : FuncData} {ps : List Str} {sp : Sp} (T : OexC X.K C) (iC : PySem.W.findIn X.K (.ref C) "__init__" = some (some (.ref fI))) (tI : PySem.W.typeIn X.K (.ref fI) = some (.type "function"))
    (F1 : FnOk X.prog X.w X.K X.mg X.base CX k fI fd ps sp) (hr : Room (k + 1) X.A) (hb : Binds X.K fd ps []) (hx : Passes CX X (fun _ _ _ => False)) (hg : Gl X x) (hm : X.mg x = some (.ref C)) (ha : PA X (e :: es) ta)
    (hdb : (x == ("__debug__" : Str)) = false := by decide) (he : starEach (e :: es) X.env = (false, eval e X.env) :: starEach es X.env := by rfl) (hpl : (backTo pos (starEach es X.env)).any (·.1) = false := by rfl) :
    L2N.PMk X (.Call (.Name x p) (e :: es) [] pos) (tMkO C sp [] ta) := by
  intro pins s σ H Q I h
  obtain ⟨_, _, _, _, bm, _, _, _, _, _, _, _, _, _, _, hC, hbm⟩ := T.cls
  refine wpAny_Call_Name_kw (ld_glob I hg hm ?_ hdb)
  refine PySem.W.callWith_K (h₀ := X.base) I.ok.mod.kin T.kC (thn (ha.run pos pins s σ H _ I h) fun us ⟨hp, g, dr, tk, os⟩ ⟨vs, H1, J, r, hz, q⟩ => ⟨J.kIn, ?_⟩) he hpl
  show wpAny _ _ (call (.ref C) us) _ _ _
  -- where the error will stand
  let n := hp.objs.size + 1
  have hn : hp.objs.size ≤ n := Nat.le_succ _
  let hp2 := (hp.push (PySem.W.kdv_tup us)).push (PySem.HandSPX.excO C hp.objs.size)
  have keeps : ∀ b o, hp.get? b = some o → hp2.get? b = some o := fun b o z => Heap.get?_push_of_some _ (Heap.get?_push_of_some _ z)
  have there : hp2.get? n = some (PySem.HandSPX.excO C hp.objs.size) := by
    show ((hp.push (PySem.W.kdv_tup us)).push (PySem.HandSPX.excO C hp.objs.size)).get? (hp.objs.size + 1) = _
    heap_get
  have J2 : Inv X pins σ (upd H1 n (exo n C none)) ⟨hp2, g, dr, tk, os⟩ := J.laid (t' := tk) keeps hn (exo_ok there)
  have q1 := q n (J.hok.fresh hn)
  rw [List.append_nil] at q1
  have r2 : Vals (V.ref n :: vs) (Value.ref n :: us) := .cons rfl r
  have b2 := hb ⟨hp2, g, dr, tk, os⟩ (Value.ref n :: us) J2.kIn (by rw [List.append_nil, ← r2.length]; exact F1.len _ _ _ _ q1)
  rw [List.append_nil] at b2
  refine wpAny_call (PySem.HandSPX.call_own F.excBase_ValueError (fun Y => PySem.HandSPX.refsVE_contains Y bm hbm) (J.kIn _ _ hC) (PySem.W.looks_findIn J.kIn iC) (fun self => PySem.W.bind_fn J.kIn self tI) (by rw [← Paired.length r, sizeLine_eq]; omega)
    (codeAny_mono (F1.run _ X.stack _ _ ⟨Value.ref n :: us, []⟩ _ _ _ (fun _ _ _ => False) (hr.make C us []) (J2.env0.make C us []) b2 r2 q1) fun r' ⟨h2, g2, d2, t2, o2⟩ z => ?_))
  match r', z with
  | .error er, z => exact hx pins σ _ _ er _ J2 z
  | .ok .next, z => exact False.elim z
  | .ok .brk, z => exact False.elim z
  | .ok .cont, z => exact False.elim z
  | .ok (.ret u), z =>
    obtain ⟨v, H2, eo, bare, un, hok, rv, ev, d, fs, ea, ed, hd, qq⟩ := z
    subst ev
    obtain ⟨t0, G, JG, kG, gn, hoe, na⟩ := mk_end0 (d2 := d2) (t2 := t2) J hn keeps un hok eo bare ea ed hd
    exact ⟨rv, n, _, _, ⟨G, g2, d2, t2, o2⟩, _, .ref C, some d, rfl, JG, kG, gn, hoe, ⟨rfl, rfl, fun vs hv => by cases hv; rfl⟩, rfl, rfl, na, rfl, bare, raises_own T.exC T.tyC, qq⟩
end
end L2
namespace L2
open PySem PySem.Spec PyProof.Rows
/-! ### a def to which the caught error is handed -/
/-- err.f, wherever the error is kept aside -/
theorem pe_xfP {X : Cx} {a C : Addr} {oe : Obj} {cls : Value} {d : Option Addr} {e : Expr} {te : TE} {pos : Pos} {n : Str} (T : XfC X.K C) (hno : PySem.W.findIn X.K (.ref C) n = some none) (hp : (a, oe) ∈ X.pn) (hz : Zc cls d oe) (hf : ∃ vs, oe.data = .fields vs) (he : PE X e te)
    (hb : attributeBase e n X.env (eval e X.env) = eval e X.env := by rfl) : PE X (.Attribute e n pos) (tXf a cls d C n te) := by
  refine ⟨fun pins s σ H Q I h => attr_of hb (thn (he.run pins s σ H _ I h) fun u s1 ⟨x, H1, J, rx, ex, ec, dd, fs, v, ed, ea, l, q⟩ => ?_)⟩
  subst ex ec ed
  obtain rfl : u = Value.ref a := rx
  obtain ⟨vs, hv⟩ := hf
  obtain ⟨mA, hns, hr⟩ := (show ObjOk X.prog X.w H1 s1.heap dd (.xd fs) from J.hok dd _ ea)
  obtain ⟨od, ho, hl⟩ := lookIn_ns hns
  obtain ⟨u', hu, ru⟩ := RelO.some_of (v := v) (o := mA n) (by rw [← l]; exact hr n)
  have inst : PySem.W.InstAt s1.heap a oe C (some od) := ⟨(J.pin (a, oe) (List.mem_append_left _ hp)).1, hz.1, by unfold PySem.W.notCls; rw [hv] <;> rfl, by rw [hz.2]; exact ho⟩
  exact HandSPX.exc_get J.kIn inst T.ga T.gg T.exC (PySem.W.findObj_own T.hdC hno rfl (by rw [hl, hu])) (handed_of ru) ⟨v, H1, J.tok _, ru, q⟩
theorem _root_.L2H.RoomH.units {k : Nat} {A : Around} (r : L2H.RoomH k A) : A.units + 64 < cLine := by have := r.un; omega
structure FnE (P : Program) (w : World) (K : PySem.W.Frag) (mg : Str → Option Value) (base : Heap) (k : Nat) (f : Addr) (fd : FuncData) (ps : List Str) (sp : Addr → Value → Option Addr → Sp) : Prop where
  len : ∀ a cls d vs H Q E, sp a cls d vs H Q E → vs.length = ps.length
  run : ∀ (A : Around) (outer : List Env) (s : Shared) (H : Hp) (args : Args) (us : List Value) (vs : List V) (Q : VK) (a : Addr) (oe : Obj) (cls : Value) (d : Option Addr), A.guards = some [] → L2H.RoomH k A → L2H.Hot1 A (a, oe) → Zc cls d oe → L2H.PinOk outer H s (a, oe) →
    Env0 P w K mg base A outer s H → BindsTo s fd args (ps.zip us) → Vals vs us → sp a cls d vs H Q E0 → codeAny (model P w) A (.call (.ref f) args) (CR CX0 outer P w H s Q E0) s
section
variable {P : Program} {w : World} {K : PySem.W.Frag} {mg : Str → Option Value} {base : Heap}
theorem Fun.okE {x qual : Str} {st : Stmt} {f : Addr} {fd : FuncData} {N ps : List Str} {k : Nat} {sp : Addr → Value → Option Addr → Sp} (F : Fun K x qual st f fd) (S : FnScope N ps (defScope st)) (len : ∀ a cls d vs H Q E, sp a cls d vs H Q E → vs.length = ps.length)
    (hbody : ∀ (cdv : Value) (A : Around) (outer : List Env) (s : Shared) (H : Hp) (vs : List V) (Q : VK) (a : Addr) (oe : Obj) (cls : Value) (d : Option Addr), A.guards = some [] → Zc cls d oe → (∃ vs, oe.data = .fields vs) → L2H.RoomH k (A.deeper (envOfC qual (defScope st) s.heap.objs.size f cdv)) → sp a cls d vs H Q E0 →
      ∃ t, PSs (L2H.cxH CX0 P w K mg base N qual (defScope st) f cdv A outer s H E0 (a, oe)) (defBody st) t ∧ t { nx := fun _ H' => Q .non H', rt := Q } (start N vs) H) : FnE P w K mg base (k + 1) f fd ps sp := by
  obtain ⟨oc, od, kV, doc, pm, an, cdv, ct, osl, rfl, lk, hcd⟩ := F.ex
  refine ⟨len, fun A outer s H args us vs Q a oe cls d hA hr hot hz hpin e0 hb r hsp => ?_⟩
  have hl := len _ _ _ _ _ _ _ hsp
  have kept : ∀ b o, base.get? b = some o → s.heap.get? b = some o := fun b o e => (e0.bs b o e).1
  have seen := e0.mod.kin.keeps kept
  refine codeAny_call_function hr.depth (seen _ _ lk) rfl S.co S.gen rfl (PySem.W.codeRec_of seen hcd) (hb _ _ _ _ (wpAny_newFunctionEnv_cells S.kind (fun ⟨n, v⟩ hy => ?_) fun env he s1 x => ?_))
  · exact (S.par n (List.of_mem_zip hy).1).imp id fun q => ⟨q, PySem.W.cellsFrom_some _ _ _ (.inl q)⟩
  · subst he
    obtain ⟨v0, hv0, _⟩ := hot.2
    obtain ⟨t, ht, hq⟩ := hbody cdv A outer s H vs Q a oe cls d hA hz ⟨v0, hv0⟩ (hr.deeper _) hsp
    have I := L2H.inv_startH (CX := CX0) (E := E0) S hpin e0 hl r x
    refine ⟨(e0.mod.nolimit.keeps kept).keeps x.toInCall.keep, codeAny_func (wpAny_mono (ht.run [] s1 (start N vs) H _ I hq) (fun fl s' hs => ?_) fun _ _ hs => hs)⟩
    cases fl with
    | next =>
      obtain ⟨_, H', J, q⟩ := hs
      exact ⟨.non, H', J.os, J.bare, J.base, J.hok, rfl, q⟩
    | ret u =>
      obtain ⟨v, _, H', J, rv, q⟩ := hs
      exact ⟨v, H', J.os, J.bare, J.base, J.hok, rv, q⟩
    | brk =>
      obtain ⟨_, _, _, q⟩ := hs
      exact q.elim
    | cont =>
      obtain ⟨_, _, _, q⟩ := hs
      exact q.elim
end
/-- f(e, ..) within the suite -/
theorem pe_callE {X : Cx} {k : Nat} {f : Addr} {fd : FuncData} {ps : List Str} {sp : Addr → Value → Option Addr → Sp} {x : Str} {p pos : Pos} {e : Expr} {es : List Expr} {t : TA} {a : Addr} {oe : Obj} {cls : Value} {d : Option Addr} {pn : List (Addr × Obj)}
    (F : FnE X.prog X.w X.K X.mg X.base k f fd ps sp) (hA : X.A.guards = some []) (hr : Room k X.A) (hz : L2N.Zn cls d oe) (hf : ∃ vs, oe.data = .fields vs) (hg : Gl X x) (hm : X.mg x = some (.ref f)) (hk : PySem.W.keepIn X.K (.ref f) = true) (hb : Binds X.K fd ps [])
    (ha : PA (X.suite a ((a, oe) :: pn)) (e :: es) t) (hdb : (x == ("__debug__" : Str)) = false := by decide) (he : starEach (e :: es) X.env = (false, eval e X.env) :: starEach es X.env := by rfl) (hpl : (backTo pos (starEach es X.env)).any (·.1) = false := by rfl) :
    PE (X.suite a ((a, oe) :: pn)) (.Call (.Name x p) (e :: es) [] pos) (tCall (sp a cls d) [] E0 t) := by
  refine ⟨fun pins s σ H Q I h => wpAny_Call_Name_kw (ld_glob (X := X.suite a ((a, oe) :: pn)) I hg hm ?_ hdb)⟩
  refine PySem.W.callWith_K (h₀ := X.base) I.ok.mod.kin hk (thn (ha.run pos pins s σ H _ I h) fun us s1 ⟨vs, H1, J, r, q⟩ => ⟨J.kIn, ?_⟩) he hpl
  have q : sp a cls d vs H1 Q E0 := by
    have h : sp a cls d (vs ++ []) H1 Q E0 := q
    rwa [List.append_nil] at h
  show wpAny _ _ (call (.ref f) us) _ _ _
  have b := hb s1 us J.kIn (by rw [List.append_nil, ← r.length]; exact F.len _ _ _ _ _ _ _ q)
  rw [List.append_nil] at b
  obtain ⟨v0, hv0⟩ := hf
  have P1 := J.pin (a, oe) (List.mem_append_left _ List.mem_cons_self)
  have pin : L2H.PinOk X.stack H1 s1 (a, oe) := ⟨P1.1, P1.2.1, fun z => (List.mem_cons.mp (J.stkSub a z)).elim P1.2.2.1 P1.2.2.2.1, P1.2.2.2.2⟩
  refine wpAny_call (codeAny_mono (F.run (X.A.mark (some (.ref a))) X.stack s1 H1 ⟨us, []⟩ us vs Q a oe cls d hA ⟨hr.dp, hr.un⟩ ⟨rfl, v0, hv0, hz.2.2 _ hv0⟩ hz.zc pin J.env0 b r q) fun r' s' z => ?_)
  match r', z with
  | .error _, z => exact False.elim z
  | .ok (.ret u), z => exact J.after z
  | .ok .next, z => exact False.elim z
  | .ok .brk, z => exact False.elim z
  | .ok .cont, z => exact False.elim z
end L2
namespace L2
open PySem PySem.Spec PyProof.Rows
section
variable {P : Program} {w : World} {K : PySem.W.Frag} {mg : Str → Option Value} {base : Heap} {CX : CXT} {k : Nat} {f : Addr} {fd : FuncData} {ps : List Str} {sp sp' : Sp}
/-- where nothing is let out, anything may be promised of it -/
theorem FnOk.cx0 (F : FnOk P w K mg base CX0 k f fd ps sp) : FnOk P w K mg base CX k f fd ps sp := ⟨F.len, fun A outer s H args us vs Q E hr e0 hb r h => codeAny_mono (F.run A outer s H args us vs Q E hr e0 hb r h) fun r' s' z => by
  match r', z with
  | .error _, z => exact False.elim z
  | .ok (.ret u), z => exact z
  | .ok .next, z => exact z
  | .ok .brk, z => exact z
  | .ok .cont, z => exact z⟩
theorem FnOk.or (F : FnOk P w K mg base CX k f fd ps sp) (F' : FnOk P w K mg base CX k f fd ps sp') : FnOk P w K mg base CX k f fd ps (fun vs H Q E => sp vs H Q E ∨ sp' vs H Q E) :=
  ⟨fun vs H Q E h => h.elim (F.len vs H Q E) (F'.len vs H Q E), fun A outer s H args us vs Q E hr e0 hb r h => h.elim (F.run A outer s H args us vs Q E hr e0 hb r) (F'.run A outer s H args us vs Q E hr e0 hb r)⟩
end
/-- o.m() in a try -/
theorem pe_methT0 {X : Cx} {CX : CXT} {k : Nat} {f C : Addr} {fd : FuncData} {ps : List Str} {sp : Sp} {E : St → XK} {m : Str} {pos apos : Pos} {o : Expr} {ta : TE} {pl : Sem Bool} (he : PE X o ta) (c : Cls X.K C) (hm : Meth X.K C m f) (F : FnOk X.prog X.w X.K X.mg X.base CX k f fd ps sp) (hr : Room k X.A) (hb : Binds X.K fd ps []) (hx : ∀ σ, PassesAt CX X σ (E σ))
    (ht : eval (.Call (.Attribute o m apos) [] [] pos) X.env = (do
      let ov ← eval o X.env
      standAt apos.atName
      let (f, first) ← holding [ov] (getMethod ov m pl)
      callWith pos f first (backTo pos (starEach [] X.env)) (backToKw pos (keywordEach [] X.env))) := by rfl) :
    PE X (.Call (.Attribute o m apos) [] [] pos) (tMethT C m sp [] E ta tNil) := by
  refine ⟨fun pins s σ H Q I h => PySem.W.methodCall_KW (pl := pl) (thn (he.run pins s σ H _ I h) fun u s1 ⟨x, H1, J, rx, a, dx, fs, ex, ea, l, q⟩ => ?_) ht⟩
  subst ex
  obtain rfl : u = Value.ref a := rx
  exact getmeth_ok J ea c hm l (PySem.W.callWith_K0 (first := [.ref a]) J.kIn hm.kp (run_fnT (us := [.ref a]) (vs := [.ref a]) F hr hb .nil (hx σ) J (.cons rfl .nil) q))
end L2
namespace L2
open PySem PySem.Spec PyProof.Rows
theorem k_isX {X : Cx} {K : PySem.W.Frag} {a : Addr} {oe : Obj} {cls : Value} {d : Option Addr} (hK : X.K = K) (hp : (a, oe) ∈ X.pn) (hz : Zc cls d oe) (hf : ∃ vs, oe.data = .fields vs) : CallR X (.builtin "isinstance") (rIsX K a cls d) := by
  subst hK
  exact call_isX hp hz hf
theorem k_reprG {X : Cx} {K : PySem.W.Frag} (hK : X.K = K) (hA : X.A.guards = some []) (hu : X.A.units + 64 < cLine) : CallR X (.builtin "repr") (rRepr K) := by
  subst hK
  exact call_reprG hA hu
end L2

namespace L2
open PySem PySem.Spec PyProof.Rows
/-! ### keyword-only parameters of which some lack: their defaults are read off -/
section
variable {K : PySem.W.Frag} {x qual : Str} {st : Stmt} {D : Addr} {doc pm cdv ct : Value} {an : Option Addr} {ps : List Str}
theorem kbind_sub (n : Nat) (ks : List Str) (ms : List (Str × Value)) (g : List Value → List Value → List Value) (gV : List V → List V → List V) (hms : ∀ q ∈ ms, PySem.W.nsIn K D q.1 = some (some q.2))
    (hrel : ∀ {vs : List V} {us : List Value} {zs : List V} {ws : List Value}, Vals vs us → Vals zs ws → Vals (gV vs zs) (g us ws))
    (h : ∀ us ws : List Value, us.length = n → ws.length = ks.length → KwChain D ms (bindArgs (PySem.W.fnOf x qual (defArgs st) (defBody st) (defScope st) .none (.ref D) doc pm an cdv ct) ⟨us, ks.zip ws⟩) (ps.zip (g us ws))) :
    KBn K (PySem.W.fnOf x qual (defArgs st) (defBody st) (defScope st) .none (.ref D) doc pm an cdv ct) ps n ks g gV :=
  ⟨fun _ us ws X l1 l2 => BindsTo.of_looks fun _ => KwChain.looks X hms (h us ws l1 l2), hrel⟩
theorem kbind_none (n : Nat) (ms : List (Str × Value)) (hn : n + ms.length = ps.length) (hms : ∀ q ∈ ms, PySem.W.nsIn K D q.1 = some (some q.2))
    (h : ∀ us : List Value, us.length = n → KwChain D ms (bindArgs (PySem.W.fnOf x qual (defArgs st) (defBody st) (defScope st) .none (.ref D) doc pm an cdv ct) ⟨us, []⟩) (ps.zip (us ++ ms.map (·.2)))) :
    Binds K (PySem.W.fnOf x qual (defArgs st) (defBody st) (defScope st) .none (.ref D) doc pm an cdv ct) ps (ms.map (·.2)) := fun _ us X hl =>
  BindsTo.of_looks fun _ => KwChain.looks X hms (h us (by rw [List.length_append, List.length_map] at hl; omega))
end
end L2

namespace L2
open PySem PySem.Spec PyProof.Rows
/-! ### data whose repr is short -/
structure ShW (d : PyData) (n w : Nat) : Prop where
  ok : d.showable = true
  nod : d.hasDict = false
  deep : d.depth ≤ n
  short : d.leavesShort 13 = true
  wt : d.bulk ≤ w
structure ShA (ds : List PyData) (n w : Nat) : Prop where
  ok : PyData.showableAll ds = true
  nod : PyData.hasDictAll ds = false
  deep : PyData.depthAll ds ≤ n
  short : PyData.leavesShortAll 13 ds = true
  wt : PyData.bulkAll ds ≤ w
theorem log_sm {n : Nat} (h : n < 10 ^ 12) : n.log2 < 1920 := by
  by_cases h0 : n = 0
  · rw [h0]; decide
  · have h2 : n < 2 ^ 40 := Nat.lt_of_lt_of_le h (by decide)
    exact Nat.lt_of_lt_of_le ((Nat.log2_lt h0).mpr h2) (by omega)
theorem ShW.int {i : Int} (h : i.natAbs < 10 ^ 12) : ShW (.int i) 0 0 :=
  ⟨by simp only [PyData.showable]; exact decide_eq_true (log_sm h), by simp only [PyData.hasDict], by simp only [PyData.depth]; exact Nat.le_refl _, by simp only [PyData.leavesShort]; exact decide_eq_true (PyData.shown_int_le h), by simp only [PyData.bulk]; exact Nat.le_refl _⟩
theorem ShA.nil {n w : Nat} : ShA [] n w := ⟨by simp only [PyData.showableAll], by simp only [PyData.hasDictAll], by simp only [PyData.depthAll]; exact Nat.zero_le _, by simp only [PyData.leavesShortAll], by simp only [PyData.bulkAll]; exact Nat.zero_le _⟩
theorem ShA.cons {d : PyData} {ds : List PyData} {n w w' : Nat} (h : ShW d n w) (h' : ShA ds n w') : ShA (d :: ds) n (w + 1 + w') :=
  ⟨by simp only [PyData.showableAll, h.ok, h'.ok, Bool.and_self], by simp only [PyData.hasDictAll, h.nod, h'.nod, Bool.or_self], by
    simp only [PyData.depthAll]
    exact Nat.max_le.mpr ⟨h.deep, h'.deep⟩, by simp only [PyData.leavesShortAll, h.short, h'.short, Bool.and_self], by
    simp only [PyData.bulkAll]
    have := h.wt
    have := h'.wt
    omega⟩
theorem ShA.lst {ds : List PyData} {n w : Nat} (h : ShA ds n w) : ShW (.list ds) (n + 1) w :=
  ⟨by simp only [PyData.showable, h.ok], by simp only [PyData.hasDict, h.nod], by
    simp only [PyData.depth]
    have := h.deep
    omega, by simp only [PyData.leavesShort, h.short], by simp only [PyData.bulk]; exact h.wt⟩
theorem ShA.tup {ds : List PyData} {n w : Nat} (h : ShA ds n w) : ShW (.tuple ds) (n + 1) w :=
  ⟨by simp only [PyData.showable, h.ok], by simp only [PyData.hasDict, h.nod], by
    simp only [PyData.depth]
    have := h.deep
    omega, by simp only [PyData.leavesShort, h.short], by simp only [PyData.bulk]; exact h.wt⟩
theorem ShA.map {α : Type} {f : α → PyData} {n w : Nat} : ∀ {ds : List α}, (∀ d ∈ ds, ShW (f d) n w) → ShA (ds.map f) n ((w + 1) * ds.length)
  | [], _ => .nil
  | d :: r, h => by
    have := ShA.cons (h d List.mem_cons_self) (ShA.map (ds := r) fun x hx => h x (List.mem_cons_of_mem _ hx))
    rw [List.map_cons, List.length_cons, Nat.mul_add, Nat.mul_one, Nat.add_comm ((w + 1) * r.length)]
    exact this
theorem ShW.up {d : PyData} {n w n' w' : Nat} (h : ShW d n w) (hn : n ≤ n') (hw : w ≤ w') : ShW d n' w' := ⟨h.ok, h.nod, Nat.le_trans h.deep hn, h.short, Nat.le_trans h.wt hw⟩
theorem w_repr {K : PySem.W.Frag} {H : Hp} {Q : VK} {x : V} {d : PyData} {n w : Nat} (hd : Dp K H x d) (hs : ShW d n w) (hn : n ≤ 30) (hw : w ≤ 600) (q : Q (.str d.shown) H) : rRepr K [x] H Q := by
  refine ⟨x, d, rfl, hd, hs.ok, hs.nod, Nat.le_trans hs.deep hn, .inl ?_, q⟩
  have h := PyData.shown_le_bulk 13 (by omega) d hs.short
  have h2 : (13 + 2) * d.bulk ≤ 15 * 600 := Nat.mul_le_mul (by omega) (Nat.le_trans hs.wt hw)
  omega
theorem w_neSS {K : PySem.W.Frag} {H : Hp} {Q : VK} {s : Str} (q : Q (.bl false) H) : rNeG K (.str s) (.str s) H Q := .inl ⟨rfl, by
  rw [decide_eq_true rfl]; exact q⟩
theorem w_eqSS {K : PySem.W.Frag} {H : Hp} {Q : VK} {s : Str} (q : Q (.bl true) H) : rEqG K (.str s) (.str s) H Q := .inl ⟨rfl, by
  rw [decide_eq_true rfl]; exact q⟩
theorem w_eqSD {K : PySem.W.Frag} {H : Hp} {Q : VK} {s t : Str} (h : s ≠ t) (q : Q (.bl false) H) : rEqG K (.str s) (.str t) H Q := .inl ⟨rfl, by
  rw [decide_eq_false (fun e => h (V.str.inj e))]; exact q⟩
theorem w_neSD {K : PySem.W.Frag} {H : Hp} {Q : VK} {s t : Str} (h : s ≠ t) (q : Q (.bl true) H) : rNeG K (.str s) (.str t) H Q := .inl ⟨rfl, by
  rw [decide_eq_false (fun e => h (V.str.inj e))]; exact q⟩
theorem w_neBB {K : PySem.W.Frag} {H : Hp} {Q : VK} {b : Bool} (q : Q (.bl false) H) : rNeG K (.bl b) (.bl b) H Q := .inl ⟨rfl, by
  rw [decide_eq_true rfl]; exact q⟩
/-! ### new objects, the heap told anew -/
theorem w_newO {H : Hp} {o : HO} {F : Addr → Hp → Prop} (q : ∀ p H', H p = none → Same H H' → H' p = some o → F p H') : ∀ p, H p = none → F p (upd H p o) := fun p hp => q p _ hp (Same.new hp) upd_same
theorem sqU {K : PySem.W.Frag} {H : Hp} {q p : Addr} {xs ys : List V} {o : HO} (hq : H q = some (.lst xs)) (h : Sq false K H p ys) : Sq false K (upd H q o) p ys := by
  obtain ⟨_, e, h⟩ := RTup.upd (R := RRw false K) RRw.tup RRw.mono (o := o) (NTup.lst hq) ⟨p, rfl, h⟩
  cases e
  exact h
end L2
namespace L2
open PySem PySem.Spec PyProof.Rows
section
variable {K : PySem.W.Frag} {σ : St} {H : Hp} {Q : VK}
/-- a new object, n long -/
def NewO (Q : VK) (H : Hp) (n : Nat) (o : HO) : Prop := n ≤ sizeLine ∧ ∀ p, H p = none → Q (.ref p) (upd H p o)
theorem w_new {n : Nat} {o : HO} (hn : n ≤ 1000000) (q : ∀ p H', H p = none → Same H H' → H' p = some o → Q (.ref p) H') : NewO Q H n o :=
  ⟨by rw [sizeLine_eq]; omega, fun p hp => q p _ hp (Same.new hp) upd_same⟩
theorem w_tupN {ta : TA} (q : ta σ H fun xs H1 => NewO Q H1 xs.length (.tup xs)) : tTup ta σ H Q := q
theorem w_lstN {ta : TA} (q : ta σ H fun xs H1 => NewO Q H1 xs.length (.lst xs)) : tLst ta σ H Q := q
theorem w_listN {p : Addr} {ys : List V} {b : Bool} (h : Sq b K H p ys) (q : ∀ l H', H l = none → Same H H' → H' l = some (.lst ys) → Q (.ref l) H') : rListS K [.ref p] H Q := w_listS h fun l hl => q l _ hl (Same.new hl) upd_same
theorem w_tupNL {p : Addr} {ys : List V} (h : Sq true K H p ys) (q : ∀ l H', H l = none → Same H H' → H' l = some (.tup ys) → Q (.ref l) H') : rTupS K [.ref p] H Q := w_tupL h fun l hl => q l _ hl (Same.new hl) upd_same
/-- what is let out: an error with this field -/
def RaiseQ (E : XK) (H : Hp) (C : Addr) (f : Str) (v : V) : Prop := ∀ d H', H d = none → Same H H' → H' d = some (.xd [(f, v)]) → E (.ref C) (some d) H'
theorem w_iff {A B C : Prop} {b : Bool} (h : b = true ↔ C) (h1 : C → A) (h2 : ¬ C → B) : if b = true then A else B := by
  cases b with
  | true => exact h1 (h.mp rfl)
  | false => exact h2 fun c => nomatch h.mpr c
/-- all old objects but those at a and b stand -/
def Fr2 (a b : Addr) (H H' : Hp) : Prop := ∀ c o, c ≠ a → c ≠ b → H c = some o → H' c = some o
theorem Fr2.refl (a b : Addr) (H : Hp) : Fr2 a b H H := fun _ _ _ _ e => e
theorem Fr2.trans {a b : Addr} {H H' H'' : Hp} (f : Fr2 a b H H') (g : Fr2 a b H' H'') : Fr2 a b H H'' := fun c o h1 h2 e => g c o h1 h2 (f c o h1 h2 e)
theorem Fr2.same {a b : Addr} {H H' : Hp} (s : Same H H') : Fr2 a b H H' := fun c o _ _ e => s c o e
theorem Fr2.left {a b : Addr} {H H' : Hp} (f : Fr a H H') : Fr2 a b H H' := fun c o h _ e => f c o h e
theorem Fr2.right {a b : Addr} {H H' : Hp} (f : Fr b H H') : Fr2 a b H H' := fun c o _ h e => f c o h e
theorem Fr2.mut {a b p : Addr} {H H' : Hp} {o : HO} (f : Fr2 a b H H') (hp : H p = none) : Fr2 a b H (upd H' p o) := fun c u h1 h2 e =>
  (upd_ne (fun z => by rw [z, hp] at e; cases e)).trans (f c u h1 h2 e)
theorem Fr2.hide {a b : Addr} {H H' : Hp} (f : Fr2 a b H H') : Same (hide a (hide b H)) H' := fun c o e => by
  by_cases h1 : c = a
  · rw [h1, hide_at] at e; cases e
  · rw [hide_ne h1] at e
    by_cases h2 : c = b
    · rw [h2, hide_at] at e; cases e
    · rw [hide_ne h2] at e
      exact f c o h1 h2 e
theorem NTup.hide {a b : Addr} {H : Hp} (h : NTup (H a)) : NTup (L2.hide b H a) := by
  by_cases e : a = b
  · rw [e, hide_at]; trivial
  · rw [hide_ne e]; exact h
theorem Fr2.rep {α : Type} {R : Rep α} (hm : RMono R) (ht : RTup R) {a b : Addr} {H H' : Hp} {v : V} {x : α} (f : Fr2 a b H H') (ha : NTup (H a)) (hb : NTup (H b)) (h : R H v x) : R H' v x :=
  hm _ _ _ _ f.hide (ht _ _ _ _ (NTup.hide ha) (ht _ _ _ _ hb h))
theorem Fr2.sqT {a b p : Addr} {H H' : Hp} {xs : List V} (f : Fr2 a b H H') (ha : NTup (H a)) (hb : NTup (H b)) (h : Sq false K H p xs) : Sq false K H' p xs := by
  obtain ⟨_, e, h⟩ := f.rep (R := RRw false K) RRw.mono RRw.tup ha hb ⟨p, rfl, h⟩
  cases e
  exact h
end
end L2

namespace L2
open PySem PySem.Spec PyProof.Rows
section
variable {K : PySem.W.Frag} {σ : St} {H : Hp} {te : TE} {vs : List Nat} {Q : VK}
/-- a comprehension over a range that gives new lists -/
theorem c_freshR {n : Int} {j : Nat} (rows : List (List V)) (h1 : -(2 ^ 62) ≤ n) (h2 : n < 16000000) (hl : rows.length = n.toNat) (hw : ∀ x : V, wipe ((wipe σ vs).set j (some x)) vs = wipe σ vs)
    (hs : ∀ (i : Nat) r H1 (N : VK), (i : Int) < n → rows[i]? = some r → Same H H1 → (∀ p H2, H1 p = none → Same H1 H2 → H2 p = some (.lst r) → N (.ref p) H2) → te ((wipe σ vs).set j (some (.int (i : Int)))) H1 N)
    (k : ∀ D H', Same H H' → FRows H H' D rows → Q (.ref D) H') :
    ∃ j' : Int, [V.int n] = [.int j'] ∧ -(2 ^ 62) ≤ j' ∧ j' < 2 ^ 62 ∧ CompOk (Itr 0 j'.toNat) (gName j) tYes te vs σ H Q := by
  refine l_compGR h1 h2 (fun D i acc H' => Same H H' ∧ FRows H H' D (rows.take i)) hw (fun D hD => ⟨Same.new hD, FRows.nil hD⟩) (fun i H1 D acc NT NF hi hD st e1 hal hT hF => ?_) (fun D H' ys hD st e hly => ?_)
  · obtain ⟨s1, f1⟩ := st
    have hri : rows[i]? = some (rows[i]'(by omega)) := List.getElem?_eq_getElem (by omega)
    show te _ H1 NT
    refine hs i _ H1 NT hi hri s1 fun p H2 hp s2 ep => ?_
    obtain ⟨e2, f2⟩ := f1.next s1 e1 hp s2 ep
    refine hT _ H2 e2 ⟨Same.mut (s1.trans s2) hD, ?_⟩
    rw [List.take_add_one, hri]
    exact f2
  · rw [← hl, List.take_length] at st
    exact k D H' st.1 st.2
end
end L2

namespace My
open PySem PySem.Spec PyProof.Rows L2
/-! ### sums of the first ones -/
def pre (ns : List Int) (j : Nat) : Int := (ns.take j).sum
theorem pre_zero (ns : List Int) : pre ns 0 = 0 := by simp [pre]
theorem pre_all (ns : List Int) : pre ns ns.length = ns.sum := by simp [pre]
theorem pre_succ {ns : List Int} {j : Nat} (h : j < ns.length) : pre ns (j + 1) = pre ns j + nth ns (j : Nat) := by
  have e : ns[j]? = some (nth ns (j : Nat)) := by
    rw [nth_nat, List.getD_eq_getElem?_getD, List.getElem?_eq_getElem h]
    rfl
  exact sum_take e
theorem pre_le {ns : List Int} (hn : ∀ x ∈ ns, (0 : Int) ≤ x) {i j : Nat} (h : i ≤ j) (hj : j ≤ ns.length) : pre ns i ≤ pre ns j := by
  induction j with
  | zero =>
    have : i = 0 := by omega
    subst this
    exact Int.le_refl _
  | succ j ih =>
    by_cases e : i = j + 1
    · subst e; exact Int.le_refl _
    · have h1 := ih (by omega) (by omega)
      have h2 := pre_succ (ns := ns) (j := j) (by omega)
      have h3 := hn _ (nth_mem (ns := ns) (i := (j : Nat)) (by omega) (by omega))
      omega

/-! ### one step of a reading; the closers -/
local macro_rules | `(tactic| walk_at "same") => `(tactic| first
  | assumption
  | exact Same.refl _
  | (refine Same.trans ?_ (Same.new (by assumption)); walk_at "same")
  | (refine Same.mut ?_ (by assumption); walk_at "same")
  | (refine Same.trans (H1 := _) ?_ (by assumption); walk_at "same"))
local macro_rules | `(tactic| walk_at "at") => `(tactic| first
  | assumption
  | exact upd_same
  | (refine Same.at ?_ (by assumption); walk_at "same"))
local macro_rules | `(tactic| walk_at "sq") => `(tactic| first
  | assumption
  | exact Sq.lst (by walk_at "at")
  | exact Sq.tup (by walk_at "at")
  | (refine Same.sq ?_ (by assumption); walk_at "same"))
local macro_rules | `(tactic| walk_at "lk") => `(tactic| first
  | exact lk_here
  | (refine lk_next (by decide +kernel) ?_; walk_at "lk")
  | exact rfl)
local macro_rules | `(tactic| walk_at "pf") => `(tactic| first
  | exact pf_here
  | (apply pf_next (by decide +kernel); walk_at "pf")
  | exact pf_nil)
local macro_rules | `(tactic| walk_at "num") => `(tactic| first
  | omega
  | assumption
  | (unfold CMul; omega)
  | (unfold CDiv; omega)
  | (unfold CPow; refine ⟨?_, ?_, ?_⟩ <;> first | omega | decide)
  | decide
  | (simp only [List.length_append, List.length_cons, List.length_nil, List.length_map, List.length_range] at *; omega))
local macro_rules | `(tactic| walk_at "vv") => `(tactic| first
  | exact tape_cells
  | exact tape_at
  | exact tape_great
  | exact tape_left
  | exact tape_seed
  | exact tape_turn
  | exact val_pos
  | (refine (val_neg (by decide +kernel)).trans ?_; walk_at "vv"))
local macro_rules | `(tactic| walk_at "pp") => `(tactic| first
  | exact tape_setAt
  | exact tape_setGreat
  | exact tape_setLeft
  | exact tape_setSeed
  | exact tape_setTurn)
local macro_rules | `(tactic| walk_at "dl") => `(tactic| first
  | exact tape_len
  | (show _ < 1000; simp only [List.length_cons, List.length_nil]; omega))
local macro_rules | `(tactic| walk_at "go1") => `(tactic| first
  | with_reducible refine w_var rfl ?_
  | with_reducible refine w_seq ?_
  | with_reducible refine w_asg ?_
  | with_reducible refine w_gName ?_
  | with_reducible refine w_nx ?_
  | with_reducible refine w_c ?_
  | with_reducible refine w_op ?_
  | with_reducible refine w_I0 ?_
  | with_reducible refine w_addI ?_
  | with_reducible refine w_cb ?_
  | with_reducible refine w_aCons ?_
  | with_reducible refine w_aNil ?_
  | with_reducible refine w_int1 ?_
  | with_reducible refine w_int1b ?_
  | ((with_reducible refine w_I ?_ ?_); (· walk_at "num"))
  | with_reducible refine w_test ?_
  | with_reducible refine w_exb ?_
  | with_reducible refine w_exi ?_
  | with_reducible refine w_ifS ?_
  | with_reducible refine w_tru ?_
  | with_reducible refine w_truB ?_
  | with_reducible refine w_eqI ?_
  | with_reducible refine w_neI ?_
  | with_reducible refine iteT ?_
  | with_reducible refine iteF ?_
  | with_reducible refine w_not ?_
  | with_reducible refine w_and ?_
  | with_reducible refine w_or ?_
  | with_reducible refine w_iteNT ?_
  | with_reducible refine w_iteNF ?_
  | with_reducible refine w_rt ?_
  | with_reducible refine w_ret ?_
  | with_reducible refine w_retN ?_
  | with_reducible refine w_next ?_
  | with_reducible refine w_drop ?_
  | with_reducible refine w_augI rfl ?_
  | with_reducible refine w_ipI ?_
  | with_reducible refine w_un ?_
  | with_reducible refine w_rU ?_
  | with_reducible refine w_abs ?_
  | with_reducible refine w_max2 ?_
  | with_reducible refine w_min2 ?_
  | with_reducible refine w_call ?_
  | with_reducible refine w_tB ?_
  | with_reducible refine w_bm ?_
  | ((with_reducible show tyV _ "list" (V.ref _) _ ∧ _); refine w_tyL (by walk_at "sq") ?_)
  | ((with_reducible show rIx _ (V.ref _) (V.int _) _ _); refine w_ixI (by walk_at "sq") (by walk_at "num") (by walk_at "num") ?_)
  | ((with_reducible show rSumS _ [V.ref _] _ _); refine w_sumI (by walk_at "sq") ?_)
  | ((with_reducible show rLenS _ [V.ref _] _ _); refine w_lenI (by walk_at "sq") ?_)
  | ((with_reducible show rLenS _ [V.ref _] _ _); refine w_lenS (by walk_at "sq") ?_)
  | with_reducible refine w_isNn ?_
  | with_reducible refine w_isNi ?_
  | with_reducible refine w_isNb ?_
  | with_reducible refine w_isNs ?_
  | with_reducible refine w_isNr ?_
  | with_reducible refine w_notNn ?_
  | with_reducible refine w_notNi ?_
  | with_reducible refine w_notNb ?_
  | with_reducible refine w_notNs ?_
  | with_reducible refine w_notNr ?_
  | with_reducible refine w_lstD ?_
  | with_reducible refine w_tupD ?_
  | with_reducible refine w_sl ?_
  | with_reducible refine w_noPart ?_
  | with_reducible refine w_part ?_
  | with_reducible refine w_for ?_
  | with_reducible refine w_iRng1 ?_
  | with_reducible refine w_iRng2 ?_
  | with_reducible refine w_iSeq ?_
  | with_reducible refine w_iEnumS ?_
  | with_reducible refine w_andV ?_
  | with_reducible refine w_orV ?_
  | with_reducible refine w_notV ?_
  | with_reducible refine w_ifE ?_
  | with_reducible refine w_brk ?_
  | with_reducible refine w_cont ?_
  | with_reducible refine w_gSub ?_
  | with_reducible refine w_lc ?_
  | with_reducible refine w_iZipS ?_
  | with_reducible refine w_fld ?_
  | ((with_reducible show ∃ a C dx fs v, V.ref _ = V.ref a ∧ _ ∧ Cls _ _ ∧ NoAttr _ _ _ ∧ _ ∧ _); refine w_fldAt (by walk_at "at") (by assumption) (by assumption) (by walk_at "lk") ?_)
  | with_reducible refine w_sfld ?_
  | ((with_reducible show ∃ a C dx fs, V.ref _ = V.ref a ∧ _ ∧ Cls _ _ ∧ NoAttr _ _ _ ∧ _ ∧ _); refine w_sfldAt (by walk_at "at") (by assumption) (by assumption) (by show _ < 1000; simp only [List.length_cons, List.length_nil]; omega) (by walk_at "pf") ?_)
  | with_reducible refine w_meth ?_
  | ((with_reducible show ∃ a dx fs, V.ref _ = V.ref a ∧ _ ∧ _ ∧ _); refine w_methAt (by walk_at "at") (by walk_at "lk") ?_)
  | with_reducible refine w_make ?_
  | with_reducible refine w_chain ?_
  | with_reducible refine w_dget ?_
  | ((with_reducible show ∃ a v, V.ref _ = V.ref a ∧ DGet _ a (V.str _) (some v) ∧ _); refine w_dgetAt (by walk_at "at") (by walk_at "vv") ?_)
  | ((with_reducible show ∃ a H4, V.ref _ = V.ref a ∧ DPut _ a (V.str _) _ H4 ∧ _); refine w_dputAt (by walk_at "at") (by walk_at "dl") (by walk_at "pp") ?_)
  | with_reducible refine w_dput ?_
  | with_reducible refine w_disp ?_
  | with_reducible refine w_prop ?_
  | ((with_reducible show ∃ a dx fs, V.ref _ = V.ref a ∧ _ ∧ _); refine w_propAt (by walk_at "at") ?_)
  | with_reducible refine w_lstRg ?_
  | with_reducible refine w_tupRg ?_
  | with_reducible refine w_rg1 ?_
  | with_reducible refine w_rg2 ?_
  | with_reducible refine w_augS ?_
  | ((with_reducible show rGetL (V.ref _) (V.int _) _ _); refine w_getI (by walk_at "at") (by walk_at "num") (by walk_at "num") ?_)
  | with_reducible refine w_pair0 ?_
  | with_reducible refine w_pair1 ?_
  | with_reducible refine w_bk ?_
  | with_reducible refine w_ct ?_)
local macro_rules | `(tactic| walk_at "go") => `(tactic| repeat walk_at "go1")

def topS (i : Nat) : Stmt := PySem.Challenge.pw_servedalone_k05_asks_and_choices.main.body.getD i (.Pass ⟨0, 0, 0, 0⟩)
abbrev s_InvalidNumber___init__ : Stmt := inClass (topS 2) 0
abbrev s_InvalidLetter___init__ : Stmt := inClass (topS 3) 0
abbrev s_NoRoom___init__ : Stmt := inClass (topS 4) 0
abbrev s_NotHeld___init__ : Stmt := inClass (topS 5) 0
abbrev s_NotAlone___init__ : Stmt := inClass (topS 6) 0
abbrev s_NoRequest___init__ : Stmt := inClass (topS 7) 0
abbrev s_NoHouse___init__ : Stmt := inClass (topS 8) 0
abbrev s_TooLarge___init__ : Stmt := inClass (topS 9) 0
abbrev s_is_between : Stmt := topS 11
abbrev s_greatest : Stmt := topS 12
abbrev s_by_number : Stmt := topS 13
abbrev s_Ask___init__ : Stmt := inClass (topS 16) 0
abbrev s_Ask_let_weights : Stmt := inClass (topS 16) 1
abbrev s_Ask_choice : Stmt := inClass (topS 16) 2
abbrev s_Rule___init__ : Stmt := inClass (topS 18) 0
abbrev s_Rule___eq__ : Stmt := inClass (topS 18) 1
abbrev s_Rule_after : Stmt := inClass (topS 18) 2
abbrev s_Rule_lets : Stmt := inClass (topS 18) 3
abbrev s_L_numbers : Stmt := topS 20
abbrev s_L_same : Stmt := topS 21
abbrev s_L_after : Stmt := topS 22
abbrev s_L_counted : Stmt := topS 23
abbrev s_L_choice : Stmt := topS 24
abbrev s_L_rule : Stmt := topS 25
abbrev s_L_stops : Stmt := topS 26
abbrev s_L_tape : Stmt := topS 27
abbrev s_L_made : Stmt := topS 28
abbrev s_L_refuses : Stmt := topS 29
abbrev s_L_chosen : Stmt := topS 30
abbrev s_law : Stmt := topS 31
theorem sc_InvalidNumber___init__ : FnScope ["self", "number"] ["self", "number"] (defScope s_InvalidNumber___init__) := ⟨rfl, rfl, rfl, by decide +kernel, rfl, by decide +kernel, by decide +kernel⟩
theorem sc_InvalidLetter___init__ : FnScope ["self", "letter"] ["self", "letter"] (defScope s_InvalidLetter___init__) := ⟨rfl, rfl, rfl, by decide +kernel, rfl, by decide +kernel, by decide +kernel⟩
theorem sc_NoRoom___init__ : FnScope ["self", "many"] ["self", "many"] (defScope s_NoRoom___init__) := ⟨rfl, rfl, rfl, by decide +kernel, rfl, by decide +kernel, by decide +kernel⟩
theorem sc_NotHeld___init__ : FnScope ["self", "block"] ["self", "block"] (defScope s_NotHeld___init__) := ⟨rfl, rfl, rfl, by decide +kernel, rfl, by decide +kernel, by decide +kernel⟩
theorem sc_NotAlone___init__ : FnScope ["self", "block"] ["self", "block"] (defScope s_NotAlone___init__) := ⟨rfl, rfl, rfl, by decide +kernel, rfl, by decide +kernel, by decide +kernel⟩
theorem sc_NoRequest___init__ : FnScope ["self", "ticket"] ["self", "ticket"] (defScope s_NoRequest___init__) := ⟨rfl, rfl, rfl, by decide +kernel, rfl, by decide +kernel, by decide +kernel⟩
theorem sc_NoHouse___init__ : FnScope ["self", "house"] ["self", "house"] (defScope s_NoHouse___init__) := ⟨rfl, rfl, rfl, by decide +kernel, rfl, by decide +kernel, by decide +kernel⟩
theorem sc_TooLarge___init__ : FnScope ["self", "ticket"] ["self", "ticket"] (defScope s_TooLarge___init__) := ⟨rfl, rfl, rfl, by decide +kernel, rfl, by decide +kernel, by decide +kernel⟩
theorem sc_is_between : FnScope ["value", "least", "most"] ["value", "least", "most"] (defScope s_is_between) := ⟨rfl, rfl, rfl, by decide +kernel, rfl, by decide +kernel, by decide +kernel⟩
theorem sc_greatest : FnScope ["weights", "best", "letter", "weight"] ["weights"] (defScope s_greatest) := ⟨rfl, rfl, rfl, by decide +kernel, rfl, by decide +kernel, by decide +kernel⟩
theorem sc_by_number : FnScope ["weights", "number", "left", "letter"] ["weights", "number"] (defScope s_by_number) := ⟨rfl, rfl, rfl, by decide +kernel, rfl, by decide +kernel, by decide +kernel⟩
theorem sc_Ask___init__ : FnScope ["self", "prompt", "most", "stops", "tape", "rule", "stop"] ["self", "prompt", "most", "stops", "tape", "rule"] (defScope s_Ask___init__) := ⟨rfl, rfl, rfl, by decide +kernel, rfl, by decide +kernel, by decide +kernel⟩
theorem sc_Ask_let_weights : FnScope ["self", "weights", "text", "letter", "weight"] ["self", "weights", "text"] (defScope s_Ask_let_weights) := ⟨rfl, rfl, rfl, by decide +kernel, rfl, by decide +kernel, by decide +kernel⟩
theorem sc_Ask_choice : FnScope ["self", "weights", "text", "let"] ["self", "weights", "text"] (defScope s_Ask_choice) := ⟨rfl, rfl, rfl, by decide +kernel, rfl, by decide +kernel, by decide +kernel⟩
theorem sc_Rule___init__ : FnScope ["self", "start", "steps", "row"] ["self", "start", "steps"] (defScope s_Rule___init__) := ⟨rfl, rfl, rfl, by decide +kernel, rfl, by decide +kernel, by decide +kernel⟩
theorem sc_Rule___eq__ : FnScope ["self", "other"] ["self", "other"] (defScope s_Rule___eq__) := ⟨rfl, rfl, rfl, by decide +kernel, rfl, by decide +kernel, by decide +kernel⟩
theorem sc_Rule_after : FnScope ["self", "text", "state", "letter"] ["self", "text"] (defScope s_Rule_after) := ⟨rfl, rfl, rfl, by decide +kernel, rfl, by decide +kernel, by decide +kernel⟩
theorem sc_Rule_lets : FnScope ["self", "text", "letter"] ["self", "text", "letter"] (defScope s_Rule_lets) := ⟨rfl, rfl, rfl, by decide +kernel, rfl, by decide +kernel, by decide +kernel⟩
theorem sc_L_numbers : FnScope ["_law_cell", "_law_at", "_law_many", "_law_great", "_law_rest", "_law_numbers_here", "_law_k", "_law_mixed"] ["_law_cell", "_law_at", "_law_many"] (defScope s_L_numbers) := ⟨rfl, rfl, rfl, by decide +kernel, rfl, by decide +kernel, by decide +kernel⟩
theorem sc_L_same : FnScope ["_law_actual", "_law_expected", "_law_k"] ["_law_actual", "_law_expected"] (defScope s_L_same) := ⟨rfl, rfl, rfl, by decide +kernel, rfl, by decide +kernel, by decide +kernel⟩
theorem sc_L_after : FnScope ["_law_rule_here", "_law_text", "_law_state", "_law_letter"] ["_law_rule_here", "_law_text"] (defScope s_L_after) := ⟨rfl, rfl, rfl, by decide +kernel, rfl, by decide +kernel, by decide +kernel⟩
theorem sc_L_counted : FnScope ["_law_weights", "_law_rule_here", "_law_text", "_law_counted_here", "_law_state", "_law_letter"] ["_law_weights", "_law_rule_here", "_law_text"] (defScope s_L_counted) := ⟨rfl, rfl, rfl, by decide +kernel, rfl, by decide +kernel, by decide +kernel⟩
theorem sc_L_choice : FnScope ["_law_weights", "_law_rule_here", "_law_tape_here", "_law_text", "_law_counted_here", "_law_rest", "_law_letter", "_law_k"] ["_law_weights", "_law_rule_here", "_law_tape_here", "_law_text"] (defScope s_L_choice) := ⟨rfl, rfl, rfl, by decide +kernel, rfl, by decide +kernel, by decide +kernel⟩
theorem sc_L_rule : FnScope ["_law_numbers_here", "_law_k", "_law_letters", "_law_states", "_law_steps", "_law_state", "_law_row", "_law_letter", "_law_seed"] ["_law_numbers_here", "_law_k", "_law_letters"] (defScope s_L_rule) := ⟨rfl, rfl, rfl, by decide +kernel, rfl, by decide +kernel, by decide +kernel⟩
theorem sc_L_stops : FnScope ["_law_numbers_here", "_law_k", "_law_letters", "_law_stops_here", "_law_j", "_law_stop", "_law_i"] ["_law_numbers_here", "_law_k", "_law_letters"] (defScope s_L_stops) := ⟨rfl, rfl, rfl, by decide +kernel, rfl, by decide +kernel, by decide +kernel⟩
theorem sc_L_tape : FnScope ["_law_numbers_here", "_law_k", "_law_tape_here", "_law_j"] ["_law_numbers_here", "_law_k"] (defScope s_L_tape) := ⟨rfl, rfl, rfl, by decide +kernel, rfl, by decide +kernel, by decide +kernel⟩
theorem sc_L_made : FnScope ["_law_prompt", "_law_most", "_law_stops_here", "_law_tape_here", "_law_rule_here", "_law_short"] ["_law_prompt", "_law_most", "_law_stops_here", "_law_tape_here", "_law_rule_here", "_law_short"] (defScope s_L_made) := ⟨rfl, rfl, rfl, by decide +kernel, rfl, by decide +kernel, by decide +kernel⟩
theorem sc_L_refuses : FnScope ["_law_prompt", "_law_most", "_law_kinds", "e"] ["_law_prompt", "_law_most"] (defScope s_L_refuses) := ⟨rfl, rfl, rfl, by decide +kernel, rfl, by decide +kernel, by decide +kernel⟩
theorem sc_L_chosen : FnScope ["_law_ask", "_law_numbers_here", "_law_letters", "_law_rule_here", "_law_tape_here", "_law_turn", "_law_weights", "_law_k", "_law_seed", "_law_long", "_law_text", "_law_due", "_law_handed"] ["_law_ask", "_law_numbers_here", "_law_letters", "_law_rule_here", "_law_tape_here"] (defScope s_L_chosen) := ⟨rfl, rfl, rfl, by decide +kernel, rfl, by decide +kernel, by decide +kernel⟩
theorem sc_law : FnScope ["_law_script", "_law_at", "_law_numbers_here", "_law_letters", "_law_prompt", "_law_most", "_law_stops_here", "_law_tape_here", "_law_rule_here", "_law_drawn", "_law_handed", "_law_copies", "_law_ask", "_law_odds", "_law_k", "_law_stop"] ["_law_script"] (defScope s_law) := ⟨rfl, rfl, rfl, by decide +kernel, rfl, by decide +kernel, by decide +kernel⟩

structure Txt (K : PySem.W.Frag) (mg : Str → Option Value) : Type where
  z_ValueError : mg "ValueError" = none
  z_abs : mg "abs" = none
  z_bool : mg "bool" = none
  z_enumerate : mg "enumerate" = none
  z_int : mg "int" = none
  z_isinstance : mg "isinstance" = none
  z_len : mg "len" = none
  z_list : mg "list" = none
  z_max : mg "max" = none
  z_min : mg "min" = none
  z_range : mg "range" = none
  z_repr : mg "repr" = none
  z_str : mg "str" = none
  z_sum : mg "sum" = none
  z_tuple : mg "tuple" = none
  c_Ask : Addr
  C_Ask : Cls K c_Ask
  gc_Ask : mg "Ask" = some (.ref c_Ask)
  n_Ask_prompt : NoAttr K c_Ask "prompt"
  n_Ask_most : NoAttr K c_Ask "most"
  n_Ask_stops : NoAttr K c_Ask "stops"
  n_Ask_tape : NoAttr K c_Ask "tape"
  n_Ask_rule : NoAttr K c_Ask "rule"
  c_Rule : Addr
  C_Rule : Cls K c_Rule
  gc_Rule : mg "Rule" = some (.ref c_Rule)
  n_Rule_start : NoAttr K c_Rule "start"
  n_Rule_steps : NoAttr K c_Rule "steps"
  o_Rule : OwnC K c_Rule
  c_ServeError : Addr
  gc_ServeError : mg "ServeError" = some (.ref c_ServeError)
  er_ServeError : ErrN K c_ServeError
  c_InvalidNumber : Addr
  gc_InvalidNumber : mg "InvalidNumber" = some (.ref c_InvalidNumber)
  er_InvalidNumber : ErrN K c_InvalidNumber
  c_InvalidLetter : Addr
  gc_InvalidLetter : mg "InvalidLetter" = some (.ref c_InvalidLetter)
  er_InvalidLetter : ErrN K c_InvalidLetter
  c_NoHouse : Addr
  gc_NoHouse : mg "NoHouse" = some (.ref c_NoHouse)
  er_NoHouse : ErrN K c_NoHouse
  c_NoRequest : Addr
  gc_NoRequest : mg "NoRequest" = some (.ref c_NoRequest)
  er_NoRequest : ErrN K c_NoRequest
  c_NoRoom : Addr
  gc_NoRoom : mg "NoRoom" = some (.ref c_NoRoom)
  er_NoRoom : ErrN K c_NoRoom
  c_NotAlone : Addr
  gc_NotAlone : mg "NotAlone" = some (.ref c_NotAlone)
  er_NotAlone : ErrN K c_NotAlone
  c_NotHeld : Addr
  gc_NotHeld : mg "NotHeld" = some (.ref c_NotHeld)
  er_NotHeld : ErrN K c_NotHeld
  c_TooLarge : Addr
  gc_TooLarge : mg "TooLarge" = some (.ref c_TooLarge)
  er_TooLarge : ErrN K c_TooLarge
  tk_MOST_LETTERS : Tok
  gk_MOST_LETTERS : mg "MOST_LETTERS" = some (.int 30 tk_MOST_LETTERS)
  a_InvalidNumber___init__ : Addr
  d_InvalidNumber___init__ : FuncData
  F_InvalidNumber___init__ : Fun K "__init__" "InvalidNumber.__init__" s_InvalidNumber___init__ a_InvalidNumber___init__ d_InvalidNumber___init__
  b_InvalidNumber___init__ : Binds K d_InvalidNumber___init__ ["self", "number"] []
  a_is_between : Addr
  d_is_between : FuncData
  F_is_between : Fun K "is_between" "is_between" s_is_between a_is_between d_is_between
  g_is_between : mg "is_between" = some (.ref a_is_between)
  b_is_between : Binds K d_is_between ["value", "least", "most"] []
  a_greatest : Addr
  d_greatest : FuncData
  F_greatest : Fun K "greatest" "greatest" s_greatest a_greatest d_greatest
  g_greatest : mg "greatest" = some (.ref a_greatest)
  b_greatest : Binds K d_greatest ["weights"] []
  a_by_number : Addr
  d_by_number : FuncData
  F_by_number : Fun K "by_number" "by_number" s_by_number a_by_number d_by_number
  g_by_number : mg "by_number" = some (.ref a_by_number)
  b_by_number : Binds K d_by_number ["weights", "number"] []
  a_Ask___init__ : Addr
  d_Ask___init__ : FuncData
  F_Ask___init__ : Fun K "__init__" "Ask.__init__" s_Ask___init__ a_Ask___init__ d_Ask___init__
  w_Ask___init___stops : Addr
  wt_Ask___init___stops : ∀ H : Hp, SqT K H w_Ask___init___stops []
  w_Ask___init___tape : Addr
  wt_Ask___init___tape : ∀ H : Hp, SqT K H w_Ask___init___tape []
  bk_Ask___init__ : Binds K d_Ask___init__ ["self", "prompt", "most", "stops", "tape", "rule"] [Value.ref w_Ask___init___stops, Value.ref w_Ask___init___tape, Value.none]
  kb_Ask___init___stops : KBn K d_Ask___init__ ["self", "prompt", "most", "stops", "tape", "rule"] 3 ["stops"] (fun us ws => us ++ ws ++ [Value.ref w_Ask___init___tape, Value.none]) (fun vs zs => vs ++ zs ++ [V.ref w_Ask___init___tape, V.non])
  kb_Ask___init___tape : KBn K d_Ask___init__ ["self", "prompt", "most", "stops", "tape", "rule"] 3 ["tape"] (fun us ws => us ++ [Value.ref w_Ask___init___stops] ++ ws ++ [Value.none]) (fun vs zs => vs ++ [V.ref w_Ask___init___stops] ++ zs ++ [V.non])
  kb_Ask___init___stops_tape_rule : KBn K d_Ask___init__ ["self", "prompt", "most", "stops", "tape", "rule"] 3 ["stops", "tape", "rule"] (fun us ws => us ++ ws) (fun vs zs => vs ++ zs)
  M_Ask : Mk K c_Ask a_Ask___init__
  a_Ask_let_weights : Addr
  d_Ask_let_weights : FuncData
  F_Ask_let_weights : Fun K "let_weights" "Ask.let_weights" s_Ask_let_weights a_Ask_let_weights d_Ask_let_weights
  b_Ask_let_weights : Binds K d_Ask_let_weights ["self", "weights", "text"] []
  m_Ask_let_weights : Meth K c_Ask "let_weights" a_Ask_let_weights
  a_Ask_choice : Addr
  d_Ask_choice : FuncData
  F_Ask_choice : Fun K "choice" "Ask.choice" s_Ask_choice a_Ask_choice d_Ask_choice
  b_Ask_choice : Binds K d_Ask_choice ["self", "weights", "text"] []
  m_Ask_choice : Meth K c_Ask "choice" a_Ask_choice
  a_Rule___init__ : Addr
  d_Rule___init__ : FuncData
  F_Rule___init__ : Fun K "__init__" "Rule.__init__" s_Rule___init__ a_Rule___init__ d_Rule___init__
  b_Rule___init__ : Binds K d_Rule___init__ ["self", "start", "steps"] []
  M_Rule : Mk K c_Rule a_Rule___init__
  a_Rule___eq__ : Addr
  d_Rule___eq__ : FuncData
  F_Rule___eq__ : Fun K "__eq__" "Rule.__eq__" s_Rule___eq__ a_Rule___eq__ d_Rule___eq__
  b_Rule___eq__ : Binds K d_Rule___eq__ ["self", "other"] []
  m_Rule___eq__ : Meth K c_Rule "__eq__" a_Rule___eq__
  e_Rule : EqOf K c_Rule a_Rule___eq__
  a_Rule_after : Addr
  d_Rule_after : FuncData
  F_Rule_after : Fun K "after" "Rule.after" s_Rule_after a_Rule_after d_Rule_after
  b_Rule_after : Binds K d_Rule_after ["self", "text"] []
  m_Rule_after : Meth K c_Rule "after" a_Rule_after
  a_Rule_lets : Addr
  d_Rule_lets : FuncData
  F_Rule_lets : Fun K "lets" "Rule.lets" s_Rule_lets a_Rule_lets d_Rule_lets
  b_Rule_lets : Binds K d_Rule_lets ["self", "text", "letter"] []
  m_Rule_lets : Meth K c_Rule "lets" a_Rule_lets
  a_L_numbers : Addr
  d_L_numbers : FuncData
  F_L_numbers : Fun K "_law_numbers" "_law_numbers" s_L_numbers a_L_numbers d_L_numbers
  g_L_numbers : mg "_law_numbers" = some (.ref a_L_numbers)
  b_L_numbers : Binds K d_L_numbers ["_law_cell", "_law_at", "_law_many"] []
  a_L_same : Addr
  d_L_same : FuncData
  F_L_same : Fun K "_law_same" "_law_same" s_L_same a_L_same d_L_same
  g_L_same : mg "_law_same" = some (.ref a_L_same)
  b_L_same : Binds K d_L_same ["_law_actual", "_law_expected"] []
  a_L_after : Addr
  d_L_after : FuncData
  F_L_after : Fun K "_law_after" "_law_after" s_L_after a_L_after d_L_after
  g_L_after : mg "_law_after" = some (.ref a_L_after)
  b_L_after : Binds K d_L_after ["_law_rule_here", "_law_text"] []
  a_L_counted : Addr
  d_L_counted : FuncData
  F_L_counted : Fun K "_law_counted" "_law_counted" s_L_counted a_L_counted d_L_counted
  g_L_counted : mg "_law_counted" = some (.ref a_L_counted)
  b_L_counted : Binds K d_L_counted ["_law_weights", "_law_rule_here", "_law_text"] []
  a_L_choice : Addr
  d_L_choice : FuncData
  F_L_choice : Fun K "_law_choice" "_law_choice" s_L_choice a_L_choice d_L_choice
  g_L_choice : mg "_law_choice" = some (.ref a_L_choice)
  b_L_choice : Binds K d_L_choice ["_law_weights", "_law_rule_here", "_law_tape_here", "_law_text"] []
  a_L_rule : Addr
  d_L_rule : FuncData
  F_L_rule : Fun K "_law_rule" "_law_rule" s_L_rule a_L_rule d_L_rule
  g_L_rule : mg "_law_rule" = some (.ref a_L_rule)
  b_L_rule : Binds K d_L_rule ["_law_numbers_here", "_law_k", "_law_letters"] []
  a_L_stops : Addr
  d_L_stops : FuncData
  F_L_stops : Fun K "_law_stops" "_law_stops" s_L_stops a_L_stops d_L_stops
  g_L_stops : mg "_law_stops" = some (.ref a_L_stops)
  b_L_stops : Binds K d_L_stops ["_law_numbers_here", "_law_k", "_law_letters"] []
  a_L_tape : Addr
  d_L_tape : FuncData
  F_L_tape : Fun K "_law_tape" "_law_tape" s_L_tape a_L_tape d_L_tape
  g_L_tape : mg "_law_tape" = some (.ref a_L_tape)
  b_L_tape : Binds K d_L_tape ["_law_numbers_here", "_law_k"] []
  a_L_made : Addr
  d_L_made : FuncData
  F_L_made : Fun K "_law_made" "_law_made" s_L_made a_L_made d_L_made
  g_L_made : mg "_law_made" = some (.ref a_L_made)
  b_L_made : Binds K d_L_made ["_law_prompt", "_law_most", "_law_stops_here", "_law_tape_here", "_law_rule_here", "_law_short"] []
  a_L_refuses : Addr
  d_L_refuses : FuncData
  F_L_refuses : Fun K "_law_refuses" "_law_refuses" s_L_refuses a_L_refuses d_L_refuses
  g_L_refuses : mg "_law_refuses" = some (.ref a_L_refuses)
  b_L_refuses : Binds K d_L_refuses ["_law_prompt", "_law_most"] []
  a_L_chosen : Addr
  d_L_chosen : FuncData
  F_L_chosen : Fun K "_law_chosen" "_law_chosen" s_L_chosen a_L_chosen d_L_chosen
  g_L_chosen : mg "_law_chosen" = some (.ref a_L_chosen)
  b_L_chosen : Binds K d_L_chosen ["_law_ask", "_law_numbers_here", "_law_letters", "_law_rule_here", "_law_tape_here"] []
  a_law : Addr
  d_law : FuncData
  F_law : Fun K "law" "law" s_law a_law d_law
  g_law : mg "law" = some (.ref a_law)
  b_law : Binds K d_law ["_law_script"] []
  ox_InvalidNumber : OexC K c_InvalidNumber
  ic_InvalidNumber : PySem.W.findIn K (.ref c_InvalidNumber) "__init__" = some (some (.ref a_InvalidNumber___init__))
  ti_InvalidNumber : PySem.W.typeIn K (.ref a_InvalidNumber___init__) = some (.type "function")
  nf_InvalidNumber : PySem.W.findIn K (.ref c_InvalidNumber) "number" = some none
  xf_InvalidNumber : XfC K c_InvalidNumber
  ec_InvalidNumber : ExcC K c_InvalidNumber
  sv_InvalidNumber : PySem.W.subIn K (.ref c_InvalidNumber) (.type "ValueError") = some true
  sub_InvalidNumber_ServeError : PySem.W.subIn K (.ref c_InvalidNumber) (.ref c_ServeError) = some true
  sub_InvalidNumber_InvalidNumber : PySem.W.subIn K (.ref c_InvalidNumber) (.ref c_InvalidNumber) = some true
  sub_InvalidNumber_InvalidLetter : PySem.W.subIn K (.ref c_InvalidNumber) (.ref c_InvalidLetter) = some false
  sub_InvalidNumber_NoHouse : PySem.W.subIn K (.ref c_InvalidNumber) (.ref c_NoHouse) = some false
  sub_InvalidNumber_NoRequest : PySem.W.subIn K (.ref c_InvalidNumber) (.ref c_NoRequest) = some false
  sub_InvalidNumber_NoRoom : PySem.W.subIn K (.ref c_InvalidNumber) (.ref c_NoRoom) = some false
  sub_InvalidNumber_NotAlone : PySem.W.subIn K (.ref c_InvalidNumber) (.ref c_NotAlone) = some false
  sub_InvalidNumber_NotHeld : PySem.W.subIn K (.ref c_InvalidNumber) (.ref c_NotHeld) = some false
  sub_InvalidNumber_TooLarge : PySem.W.subIn K (.ref c_InvalidNumber) (.ref c_TooLarge) = some false

section
variable {P : Program} {w : World} {K : PySem.W.Frag} {mg : Str → Option Value} {base : Heap}
theorem ok_InvalidNumber___init__ (T : Txt K mg) : FnOk P w K mg base CX0 1 T.a_InvalidNumber___init__ T.d_InvalidNumber___init__ ["self", "number"] (spErr K "number") := by
  refine T.F_InvalidNumber___init__.ok sc_InvalidNumber___init__ (fun vs H Q E h => ?_) (fun cdv A outer s H vs Q E hr h => ?_)
  · obtain ⟨_, _, _, rfl, _⟩ := h
    rfl
  · obtain ⟨a, C, v, rfl, h0, T1, n1, k⟩ := h
    refine ⟨_, (pss_one (ps_ost (pv 0) (pv 1) rfl)), ?_⟩
    refine go_start (σ' := [some (.ref a), some v]) rfl ?_
    exact ⟨v, rfl, .ref a, rfl, a, C, rfl, T1, n1, .inl ⟨h0, fun dx hdx hne => k dx hdx hne⟩⟩

/-! ### _law_numbers: so many numbers from 0 to 999 -/
def sp_L_numbers (K : PySem.W.Frag) : Sp := fun vs H Q _ => ∃ (c t n : Int), vs = [.int c, .int t, .int n] ∧ 0 ≤ n ∧ n ≤ 1000 ∧
  ∀ (ns : List Int) (p : Addr) (H' : Hp), (ns.length : Int) = n → (∀ x ∈ ns, (0 : Int) ≤ x ∧ x < 1000) → Same H H' → H p = none → H' p = some (.lst (ns.map V.int)) → Q (.ref p) H'
theorem ok_L_numbers (T : Txt K mg) : FnOk P w K mg base CX0 1 T.a_L_numbers T.d_L_numbers ["_law_cell", "_law_at", "_law_many"] (sp_L_numbers K) := by
  refine T.F_L_numbers.ok sc_L_numbers (fun vs H Q E h => ?_) (fun cdv A outer s H vs Q E hr h => ?_)
  · obtain ⟨_, _, _, rfl, _⟩ := h
    rfl
  · obtain ⟨c, t, n, rfl, hn0, hn1, k⟩ := h
    refine ⟨_, (pss_cons (ps_set (i := 3) sc_L_numbers.nd rfl (Or.inl rfl) (pe_cmpR op_ge (pe_callB cr_abs (by rfl) T.z_abs (by decide +kernel) (pa_cons (pe_callTy cr_int1 (by rfl) T.z_int (by decide +kernel) (pa_cons (pv 0) pa_nil)) pa_nil)) (pe_op op_pow pe_int pe_int) (nomark _)))
      (pss_cons (ps_set (i := 4) sc_L_numbers.nd rfl (Or.inl rfl) (pe_op (k_addG (K := K) rfl) (pe_op op_mul pe_int (pe_callB cr_abs (by rfl) T.z_abs (by decide +kernel) (pa_cons (pe_callTy cr_int1 (by rfl) T.z_int (by decide +kernel) (pa_cons (pv 0) pa_nil)) pa_nil))) (pe_callTy cr_int1 (by rfl) T.z_int (by decide +kernel) (pa_cons (pe_cmpR op_lt (pv 0) pe_int (nomark _)) pa_nil))))
      (pss_cons (ps_set (i := 5) sc_L_numbers.nd rfl (Or.inl rfl) (pe_lst pa_nil))
      (pss_cons (ps_for PassesOwn.never rfl (pi_range1 rfl T.z_range (pa_cons (pv 2) pa_nil)) (pg_name (i := 6) sc_L_numbers.nd rfl (Or.inl rfl))
      (pss_one (ps_if (k_tru (K := K) rfl (pv 3) (by intro _; rfl)) (pss_cons (ps_expr (k_bm (K := K) rfl PySem.F.plainAttrs_list PySem.F.slot_list_append PySem.F.type_list_append mt_append (pv 5) (pa_cons (pe_op op_mod (pe_callTy cr_int1 (by rfl) T.z_int (by decide +kernel) (pa_cons (pv 4) pa_nil)) pe_int) pa_nil)))
      (pss_one (ps_set (i := 4) sc_L_numbers.nd rfl (Or.inl rfl) (pe_op op_fdiv (pv 4) pe_int)))) (pss_cons (ps_set (i := 7) sc_L_numbers.nd rfl (Or.inl rfl) (pe_op op_mod (pe_callTy cr_int1 (by rfl) T.z_int (by decide +kernel) (pa_cons (pe_op (k_addG (K := K) rfl) (pe_op (k_addG (K := K) rfl) (pe_op (k_addG (K := K) rfl) (pe_op op_mul (pv 4) pe_int) (pe_op op_mul (pv 1) pe_int)) (pe_op op_mul (pv 6) pe_int)) pe_int) pa_nil)) pe_int))
      (pss_cons (ps_set (i := 7) sc_L_numbers.nd rfl (Or.inl rfl) (pe_op op_mod (pe_callTy cr_int1 (by rfl) T.z_int (by decide +kernel) (pa_cons (pe_op (k_addG (K := K) rfl) (pe_op (k_addG (K := K) rfl) (pe_op op_mul (pv 7) (pv 7)) (pe_op op_mul (pv 6) pe_int)) pe_int) pa_nil)) pe_int))
      (pss_cons (ps_set (i := 7) sc_L_numbers.nd rfl (Or.inl rfl) (pe_op op_mod (pe_callTy cr_int1 (by rfl) T.z_int (by decide +kernel) (pa_cons (pe_op (k_addG (K := K) rfl) (pe_op (k_addG (K := K) rfl) (pe_op op_mul (pv 7) (pv 7)) (pe_op op_mul (pv 1) pe_int)) pe_int) pa_nil)) pe_int))
      (pss_one (ps_expr (k_bm (K := K) rfl PySem.F.plainAttrs_list PySem.F.slot_list_append PySem.F.type_list_append mt_append (pv 5) (pa_cons (pe_op op_mod (pe_callTy cr_int1 (by rfl) T.z_int (by decide +kernel) (pa_cons (pe_op op_fdiv (pv 7) pe_int) pa_nil)) pe_int) pa_nil))))))))))
      (pss_one (ps_ret (pv 5))))))), ?_⟩
    refine go_start (σ' := [some (.int c), some (.int t), some (.int n), none, none, none, none, none]) rfl ?_
    try dsimp only [cxOf, Cx.nox, Cx.wish]
    walk_at "go"
    refine ⟨Nat.zero_le _, fun l hl => ?_⟩
    walk_at "go"
    refine l_range (fun i σ H' => ∃ (g : Bool) (r : Int) (ns : List Int) (y6 y7 : Option V), σ = [some (.int c), some (.int t), some (.int n), some (.bl g), some (.int r), some (.ref l), y6, y7] ∧ ns.length = i ∧ (∀ x ∈ ns, (0 : Int) ≤ x ∧ x < 1000) ∧ Same H H' ∧ H' l = some (.lst (ns.map V.int)))
      (by omega) (by omega) ⟨_, _, [], none, none, rfl, rfl, List.forall_mem_nil _, Same.new hl, upd_same⟩ ?_ ?_
    · rintro i σ H' hi ⟨g, r, ns, y6, y7, rfl, hlen, hb, sm, hL⟩
      have hz : (ns.map V.int).length < sizeLine := by
        rw [List.length_map]
        exact small1000 (by omega)
      walk_at "go"
      refine w_iteB (fun hg => ?_) (fun hg => ?_)
      · walk_at "go"
        refine w_append hL hz ?_
        walk_at "go"
        refine ⟨g, _, ns ++ [_], _, _, rfl, by rw [List.length_append, hlen]; rfl, fun x hx => ?_, Same.mut sm hl, by rw [upd_same, List.map_append]; rfl⟩
        rcases List.mem_append.mp hx with h | h
        · exact hb x h
        · rw [List.mem_singleton.mp h]; omega
      · walk_at "go"
        refine w_append hL hz ?_
        walk_at "go"
        refine ⟨g, _, ns ++ [_], _, _, rfl, by rw [List.length_append, hlen]; rfl, fun x hx => ?_, Same.mut sm hl, by rw [upd_same, List.map_append]; rfl⟩
        rcases List.mem_append.mp hx with h | h
        · exact hb x h
        · rw [List.mem_singleton.mp h]; omega
    · rintro σ H' ⟨g, r, ns, y6, y7, rfl, hlen, hb, sm, hL⟩
      walk_at "go"
      exact k ns l H' (by omega) hb sm hl hL

/-! ### _law_same: True of the same data -/
def sp_L_same (K : PySem.W.Frag) (n : Nat) : Sp := fun vs H Q _ => ∃ x y : V, vs = [x, y] ∧ Sm K H n x y ∧ Q (.bl true) H
theorem same_step (T : Txt K mg) {n k : Nat} (G : FnOk P w K mg base CX0 k T.a_L_same T.d_L_same ["_law_actual", "_law_expected"] (fun vs H Q E => ∃ m, n = m + 1 ∧ sp_L_same K m vs H Q E)) :
    FnOk P w K mg base CX0 (k + 1) T.a_L_same T.d_L_same ["_law_actual", "_law_expected"] (sp_L_same K n) := by
  refine T.F_L_same.ok sc_L_same (fun vs H Q E h => ?_) (fun cdv A outer s H vs Q E hr h => ?_)
  · obtain ⟨_, _, rfl, _⟩ := h
    rfl
  · obtain ⟨x, y, rfl, hS, q⟩ := h
    refine ⟨_, (pss_cons (ps_if (pt_cmpR op_isNN (pv 1) pe_non (nomark _)) (pss_one (ps_ret (pe_cmpR op_isNN (pv 0) pe_non (nomark _)))) pss_nil)
      (pss_cons (ps_if (k_tru (K := K) rfl (pe_callB (k_isi (K := K) rfl) (by rfl) T.z_isinstance (by decide +kernel) (pa_cons (pv 1) (pa_cons (pe_bltn (v := .ty "str") (by rfl) T.z_str (by decide +kernel) rfl) pa_nil))) (by intro _; rfl)) (pss_one (ps_ret (pe_and (pe_callB (k_isi (K := K) rfl) (by rfl) T.z_isinstance (by decide +kernel) (pa_cons (pv 0) (pa_cons (pe_bltn (v := .ty "str") (by rfl) T.z_str (by decide +kernel) rfl) pa_nil))) (pe_one (pe_cmpR (k_eqG (K := K) rfl hr.units) (pv 0) (pv 1) (nomark _)))))) pss_nil)
      (pss_cons (ps_if (k_tru (K := K) rfl (pe_callB (k_isi (K := K) rfl) (by rfl) T.z_isinstance (by decide +kernel) (pa_cons (pv 1) (pa_cons (pe_bltn (v := .ty "bool") (by rfl) T.z_bool (by decide +kernel) rfl) pa_nil))) (by intro _; rfl)) (pss_one (ps_ret (pe_and (pe_callB (k_isi (K := K) rfl) (by rfl) T.z_isinstance (by decide +kernel) (pa_cons (pv 0) (pa_cons (pe_bltn (v := .ty "bool") (by rfl) T.z_bool (by decide +kernel) rfl) pa_nil))) (pe_one (pe_cmpR (k_eqG (K := K) rfl hr.units) (pv 0) (pv 1) (nomark _)))))) pss_nil)
      (pss_cons (ps_if (k_tru (K := K) rfl (pe_callB (k_isi (K := K) rfl) (by rfl) T.z_isinstance (by decide +kernel) (pa_cons (pv 1) (pa_cons (pe_bltn (v := .ty "int") (by rfl) T.z_int (by decide +kernel) rfl) pa_nil))) (by intro _; rfl)) (pss_one (ps_ret (pe_and (pe_callB (k_isi (K := K) rfl) (by rfl) T.z_isinstance (by decide +kernel) (pa_cons (pv 0) (pa_cons (pe_bltn (v := .ty "int") (by rfl) T.z_int (by decide +kernel) rfl) pa_nil))) (pe_and (pe_not (pe_callB (k_isi (K := K) rfl) (by rfl) T.z_isinstance (by decide +kernel) (pa_cons (pv 0) (pa_cons (pe_bltn (v := .ty "bool") (by rfl) T.z_bool (by decide +kernel) rfl) pa_nil)))) (pe_one (pe_cmpR (k_eqG (K := K) rfl hr.units) (pv 0) (pv 1) (nomark _))))))) pss_nil)
      (pss_cons (ps_if (PW.pt (pw_or (pt_not (k_tru (K := K) rfl (pe_callB (k_isi (K := K) rfl) (by rfl) T.z_isinstance (by decide +kernel) (pa_cons (pv 0) (pa_cons (pe_bltn (v := .ty "tuple") (by rfl) T.z_tuple (by decide +kernel) rfl) pa_nil))) (by intro _; rfl))) (pw_or1 (pt_cmpR (k_neG (K := K) rfl hr.units) (pe_callB (k_lenS (K := K) rfl) (by rfl) T.z_len (by decide +kernel) (pa_cons (pv 0) pa_nil)) (pe_callB (k_lenS (K := K) rfl) (by rfl) T.z_len (by decide +kernel) (pa_cons (pv 1) pa_nil)) (nomark _))))) (pss_one (ps_ret pe_bl)) pss_nil)
      (pss_cons (ps_for PassesOwn.never rfl (pi_range1 rfl T.z_range (pa_cons (pe_callB (k_lenS (K := K) rfl) (by rfl) T.z_len (by decide +kernel) (pa_cons (pv 1) pa_nil)) pa_nil)) (pg_name (i := 2) sc_L_same.nd rfl (Or.inl rfl))
      (pss_one (ps_if (pt_not (k_tru (K := K) rfl (pe_call G hr (by rfl) T.g_L_same T.F_L_same.kp T.b_L_same .nil pass0 (pa_cons (pe_ix (k_ix (K := K) rfl) (pv 0) (pv 2) (fun _ _ => rfl)) (pa_cons (pe_ix (k_ix (K := K) rfl) (pv 1) (pv 2) (fun _ _ => rfl)) pa_nil))) (by intro _; rfl))) (pss_one (ps_ret pe_bl)) pss_nil)))
      (pss_one (ps_ret pe_bl)))))))), ?_⟩
    refine go_start (σ' := [some x, some y, none]) rfl ?_
    try dsimp only [cxOf, Cx.nox, Cx.wish]
    have hflat : (x = y ∧ (x = .non ∨ (∃ b, x = .bl b) ∨ (∃ i, x = .int i) ∨ ∃ s, x = .str s)) ∨
        ∃ (m : Nat) (a a' : Addr) (k : Bool) (xs ys : List V), n = m + 1 ∧ x = .ref a ∧ y = .ref a' ∧ SqT K H a xs ∧ Sq k K H a' ys ∧ xs.length = ys.length ∧ ys.length ≤ 100000 ∧ ∀ (i : Nat) x' y', xs[i]? = some x' → ys[i]? = some y' → Sm K H m x' y' := by
      cases n with
      | zero => exact .inl hS
      | succ m =>
        rcases hS with h | ⟨a, a', k, xs, ys, h1, h2, h3, h4, h5, hz, h6⟩
        · exact .inl h
        · exact .inr ⟨m, a, a', k, xs, ys, rfl, h1, h2, h3, h4, h5, hz, h6⟩
    rcases hflat with ⟨rfl, rfl | ⟨b, rfl⟩ | ⟨i, rfl⟩ | ⟨z, rfl⟩⟩ | ⟨m, a, a', kd, xs, ys, rfl, rfl, rfl, hx, hy, hl, hz, hxy⟩
    · walk_at "go"
      exact q
    · walk_at "go"
      refine w_isi (tn := "bool") (b := false) (.base (.bl _)) (by decide +kernel) ?_
      walk_at "go"
      refine w_isi (tn := "bool") (b := true) (.base (.bl _)) (by decide +kernel) ?_
      walk_at "go"
      refine w_isi (tn := "bool") (b := true) (.base (.bl _)) (by decide +kernel) ?_
      walk_at "go"
      refine w_eqS rfl ?_
      rw [decide_eq_true rfl]
      exact q
    · walk_at "go"
      refine w_isi (tn := "int") (b := false) (.base (.int _)) (by decide +kernel) ?_
      walk_at "go"
      refine w_isi (tn := "int") (b := false) (.base (.int _)) (by decide +kernel) ?_
      walk_at "go"
      refine w_isi (tn := "int") (b := true) (.base (.int _)) (by decide +kernel) ?_
      walk_at "go"
      refine w_isi (tn := "int") (b := true) (.base (.int _)) (by decide +kernel) ?_
      walk_at "go"
      refine w_isi (tn := "int") (b := false) (.base (.int _)) (by decide +kernel) ?_
      walk_at "go"
      rw [decide_eq_true rfl]
      exact q
    · walk_at "go"
      refine w_isi (tn := "str") (b := true) (.base (.str _)) (by decide +kernel) ?_
      walk_at "go"
      refine w_isi (tn := "str") (b := true) (.base (.str _)) (by decide +kernel) ?_
      walk_at "go"
      refine w_eqS rfl ?_
      rw [decide_eq_true rfl]
      exact q
    · walk_at "go"
      have isi : ∀ {cn : String} {Q' : VK}, kitB (if kd then "list" else "tuple") cn = some false → Q' (.bl false) H → rIsi K [.ref a', .ty cn] H Q' := fun hk q' => by
        cases kd with
        | true => exact w_isi (tyx_lst hy) hk q'
        | false => exact w_isi (tyx_tup hy) hk q'
      refine isi (by cases kd <;> decide +kernel) ?_
      walk_at "go"
      refine isi (by cases kd <;> decide +kernel) ?_
      walk_at "go"
      refine isi (by cases kd <;> decide +kernel) ?_
      walk_at "go"
      refine w_isi (tn := "tuple") (b := true) (tyx_tup hx) (by decide +kernel) ?_
      walk_at "go"
      have hx' : Sq false K H a xs := hx
      walk_at "go"
      refine w_iteN (fun hc => absurd (show ((xs.length : Nat) : Int) = ys.length by rw [hl]) hc) (fun _ => ?_)
      walk_at "go"
      refine l_range (fun i σ H' => ∃ y2, σ = [some (.ref a), some (.ref a'), y2] ∧ H' = H) (by omega) (by omega) ⟨none, rfl, rfl⟩ ?_ ?_
      · rintro i σ H' hi ⟨y2, rfl, rfl⟩
        have hi2 : i < ys.length := by omega
        have ex : xs[i]? = some (xs[i]'(by omega)) := List.getElem?_eq_getElem (by omega)
        have ey : ys[i]? = some (ys[i]'hi2) := List.getElem?_eq_getElem hi2
        walk_at "go"
        refine w_ix hx' (atI_nat ex) ?_
        walk_at "go"
        refine w_ix hy (atI_nat ey) ?_
        walk_at "go"
        refine ⟨m, rfl, _, _, rfl, hxy i _ _ ex ey, ?_⟩
        walk_at "go"
        exact ⟨_, rfl, rfl⟩
      · rintro σ H' ⟨y2, rfl, rfl⟩
        walk_at "go"
        exact q
/-- of data no deeper than n, at a level of its own -/
theorem ok_L_same_at (T : Txt K mg) : ∀ n : Nat, FnOk P w K mg base CX0 (n + 1) T.a_L_same T.d_L_same ["_law_actual", "_law_expected"] (sp_L_same K n)
  | 0 => same_step T (k := 0) ⟨fun vs H Q E h => by obtain ⟨m, e, _⟩ := h; exact absurd e (by omega), fun A outer s H args us vs Q E hr he hb hv h => by obtain ⟨m, e, _⟩ := h; exact absurd e (by omega)⟩
  | n + 1 => same_step T ((ok_L_same_at T n).imp fun vs H Q E h => by
      obtain ⟨m, e, h⟩ := h
      have e2 : m = n := by omega
      subst e2
      exact h)

/-! ### letters, numbers in a list or a tuple -/
/-- numbers in a list or a tuple; rows of such -/
def RVecX (K : PySem.W.Frag) : Rep (List Int) := fun H v ns => ∃ b, RVec b K H v ns
theorem RVecX.mono {K : PySem.W.Frag} : RMono (RVecX K) := fun _ _ _ _ s ⟨b, h⟩ => ⟨b, RVec.mono _ _ _ _ s h⟩
def natI (ls : List Nat) : List Int := ls.map fun l => ((l : Nat) : Int)
theorem natI_len (ls : List Nat) : (natI ls).length = ls.length := List.length_map ..
theorem natI_at {ls : List Nat} {i : Nat} {y : V} (h : ((natI ls).map V.int)[i]? = some y) : ∃ l, ls[i]? = some l ∧ y = .int (l : Nat) := by
  rw [natI, List.map_map, List.getElem?_map] at h
  cases e : ls[i]? with
  | none => rw [e] at h; cases h
  | some l => rw [e] at h; exact ⟨l, rfl, (Option.some.inj h).symm⟩
theorem line_of {n : Nat} (h : n ≤ 1000000) : n < sizeLine := by rw [sizeLine_eq]; omega

/-! ### is_between -/
def sp_is_between (K : PySem.W.Frag) : Sp := fun vs H Q _ => ∃ (x : V) (a b : Int) (r : Bool), vs = [x, .int a, .int b] ∧
  ((∃ v, x = .int v ∧ r = decide (a ≤ v ∧ v ≤ b)) ∨ (r = false ∧ ∃ tn, TyX K H x (.type tn) ∧ (tn = "bool" ∨ tn = "NoneType" ∨ tn = "str" ∨ tn = "tuple" ∨ tn = "list"))) ∧ Q (.bl r) H
theorem ok_is_between (T : Txt K mg) : FnOk P w K mg base CX0 1 T.a_is_between T.d_is_between ["value", "least", "most"] (sp_is_between K) := by
  refine T.F_is_between.ok sc_is_between (fun vs H Q E h => ?_) (fun cdv A outer s H vs Q E hr h => ?_)
  · obtain ⟨_, _, _, _, rfl, _⟩ := h
    rfl
  · obtain ⟨x, a, b, r, rfl, hx, k⟩ := h
    refine ⟨_, (pss_one (ps_ret (pe_and (pe_callB (k_isi (K := K) rfl) (by rfl) T.z_isinstance (by decide +kernel) (pa_cons (pv 0) (pa_cons (pe_bltn (v := .ty "int") (by rfl) T.z_int (by decide +kernel) rfl) pa_nil))) (pe_and (pe_not (pe_callB (k_isi (K := K) rfl) (by rfl) T.z_isinstance (by decide +kernel) (pa_cons (pv 0) (pa_cons (pe_bltn (v := .ty "bool") (by rfl) T.z_bool (by decide +kernel) rfl) pa_nil)))) (pe_one (pe_chain op_le op_le (pv 1) (pv 0) (pv 2))))))), ?_⟩
    refine go_start (σ' := [some x, some (.int a), some (.int b)]) rfl ?_
    try dsimp only [cxOf, Cx.nox, Cx.wish]
    rcases hx with ⟨v, rfl, rfl⟩ | ⟨rfl, tn, ht, h5⟩
    · walk_at "go"
      refine w_isi (tn := "int") (b := true) (.base (.int _)) (by decide +kernel) ?_
      walk_at "go"
      refine w_isi (tn := "int") (b := false) (.base (.int _)) (by decide +kernel) ?_
      walk_at "go"
      refine w_iteD (fun h1 => ?_) (fun h1 => ?_)
      · walk_at "go"
        rw [show decide (v ≤ b) = decide (a ≤ v ∧ v ≤ b) by simp [h1]]
        exact k
      · walk_at "go"
        rw [show false = decide (a ≤ v ∧ v ≤ b) by simp [h1]]
        exact k
    · walk_at "go"
      rcases h5 with rfl | h5
      · refine w_isi (tn := "bool") (b := true) ht (by decide +kernel) ?_
        walk_at "go"
        refine w_isi (tn := "bool") (b := true) ht (by decide +kernel) ?_
        walk_at "go"
        exact k
      · have e : kitB tn "int" = some false := by rcases h5 with rfl | rfl | rfl | rfl <;> decide +kernel
        refine w_isi (tn := tn) (b := false) ht e ?_
        walk_at "go"
        exact k


/-! ### values that are no numbers, or others -/
structure Shows (d : PyData) : Prop where
  ok : d.showable = true
  nod : d.hasDict = false
  deep : d.depth ≤ 30
  size : d.shown.length ≤ 10000 ∨ ∃ i, d = .int i
def ROdd (K : PySem.W.Frag) : Rep PyData := fun H v d => Shows d ∧ ((v = .non ∧ d = .none) ∨ (∃ b, v = .bl b ∧ d = .bool b) ∨ (∃ i, v = .int i ∧ d = .int i) ∨ (∃ s, v = .str s ∧ d = .str s) ∨
  ∃ (a : Addr) (b : Bool) (ns : List Int), v = .ref a ∧ Sq b K H a (ns.map V.int) ∧ d = if b then .list (ns.map PyData.int) else .tuple (ns.map PyData.int))
theorem ROdd.mono {K : PySem.W.Frag} : RMono (ROdd K) := fun _ _ _ _ s ⟨h, k⟩ => ⟨h, by
  rcases k with k | k | k | k | ⟨a, b, ns, e, hq, ed⟩
  · exact .inl k
  · exact .inr (.inl k)
  · exact .inr (.inr (.inl k))
  · exact .inr (.inr (.inr (.inl k)))
  · exact .inr (.inr (.inr (.inr ⟨a, b, ns, e, s.sq hq, ed⟩)))⟩
theorem ROdd.dp {K : PySem.W.Frag} {H : Hp} {v : V} {d : PyData} (h : ROdd K H v d) : Dp K H v d := by
  obtain ⟨_, ⟨rfl, rfl⟩ | ⟨b, rfl, rfl⟩ | ⟨i, rfl, rfl⟩ | ⟨s, rfl, rfl⟩ | ⟨a, b, ns, rfl, hq, rfl⟩⟩ := h
  · exact .non
  · exact .bl _
  · exact .int _
  · exact .str _
  · exact dp_ints hq
def inB (a b : Int) : PyData → Bool
  | .int i => decide (a ≤ i ∧ i ≤ b)
  | _ => false
theorem ROdd.between {K : PySem.W.Frag} {H : Hp} {v : V} {d : PyData} (h : ROdd K H v d) (a b : Int) : (∃ i, v = .int i ∧ inB a b d = decide (a ≤ i ∧ i ≤ b)) ∨ (inB a b d = false ∧ ∃ tn, TyX K H v (.type tn) ∧ (tn = "bool" ∨ tn = "NoneType" ∨ tn = "str" ∨ tn = "tuple" ∨ tn = "list")) := by
  obtain ⟨_, ⟨rfl, rfl⟩ | ⟨b, rfl, rfl⟩ | ⟨i, rfl, rfl⟩ | ⟨s, rfl, rfl⟩ | ⟨a, b, ns, rfl, hq, rfl⟩⟩ := h
  · exact .inr ⟨rfl, _, .base .non, .inr (.inl rfl)⟩
  · exact .inr ⟨rfl, _, .base (.bl _), .inl rfl⟩
  · exact .inl ⟨i, rfl, rfl⟩
  · exact .inr ⟨rfl, _, .base (.str _), .inr (.inr (.inl rfl))⟩
  · cases b with
    | true => exact .inr ⟨rfl, _, tyx_lst hq, .inr (.inr (.inr (.inr rfl)))⟩
    | false => exact .inr ⟨rfl, _, tyx_tup hq, .inr (.inr (.inr (.inl rfl)))⟩
theorem ROdd.int {K : PySem.W.Frag} {H : Hp} {i : Int} (h : i.natAbs.log2 < 1920) : ROdd K H (.int i) (.int i) := ⟨⟨by show decide (i.natAbs.log2 < 1920) = true; exact decide_eq_true h, rfl, by show (0 : Nat) ≤ 30; omega, .inr ⟨i, rfl⟩⟩, .inr (.inr (.inl ⟨i, rfl, rfl⟩))⟩
theorem log_small {i : Int} (h : i.natAbs < 2 ^ 200) : i.natAbs.log2 < 1920 := by
  by_cases h0 : i.natAbs = 0
  · rw [h0]; decide
  · exact Nat.lt_of_lt_of_le ((Nat.log2_lt h0).mpr h) (by omega)
theorem in_not {a b i : Int} (h : ¬ (a ≤ i ∧ i ≤ b)) : inB a b (.int i) = false := decide_eq_false h

/-! ### greatest -/
def bestUpTo (ns : List Int) : Nat → Nat
  | 0 => 0
  | i + 1 => if nth ns (bestUpTo ns i) < nth ns i then i else bestUpTo ns i
theorem bestUpTo_lt (ns : List Int) : ∀ i, 0 < i → bestUpTo ns i < i
  | 0, h => absurd h (by decide)
  | i + 1, _ => by
    unfold bestUpTo
    split
    · omega
    · rcases Nat.eq_zero_or_pos i with h | h
      · subst h; exact Nat.zero_lt_one
      · have := bestUpTo_lt ns i h; omega
theorem bestUpTo_len {ns : List Int} (h : 0 < ns.length) {i : Nat} (hi : i ≤ ns.length) : bestUpTo ns i < ns.length := by
  rcases Nat.eq_zero_or_pos i with e | e
  · subst e; exact h
  · have := bestUpTo_lt ns i e; omega
/-- it is the first of the greatest -/
theorem bestUpTo_best (ns : List Int) : ∀ i, (∀ j, j < i → nth ns (j : Nat) ≤ nth ns (bestUpTo ns i)) ∧ (∀ j, j < bestUpTo ns i → nth ns (j : Nat) < nth ns (bestUpTo ns i))
  | 0 => ⟨fun j h => absurd h (Nat.not_lt_zero j), fun j h => absurd h (Nat.not_lt_zero j)⟩
  | i + 1 => by
    obtain ⟨h1, h2⟩ := bestUpTo_best ns i
    by_cases c : nth ns (bestUpTo ns i) < nth ns i
    · have e : bestUpTo ns (i + 1) = i := if_pos c
      rw [e]
      refine ⟨fun j hj => ?_, fun j hj => ?_⟩
      · by_cases q : j = i
        · subst q; exact Int.le_refl _
        · have := h1 j (by omega); omega
      · have := h1 j hj; omega
    · have e : bestUpTo ns (i + 1) = bestUpTo ns i := if_neg c
      rw [e]
      refine ⟨fun j hj => ?_, fun j hj => h2 j hj⟩
      by_cases q : j = i
      · subst q; omega
      · exact h1 j (by omega)
def sp_greatest (K : PySem.W.Frag) : Sp := fun vs H Q _ => ∃ (b : Bool) (a : Addr) (ns : List Int), vs = [.ref a] ∧ Sq b K H a (ns.map V.int) ∧ 0 < ns.length ∧ ∀ H', Same H H' → Q (.int (bestUpTo ns ns.length : Nat)) H'
theorem ok_greatest (T : Txt K mg) : FnOk P w K mg base CX0 1 T.a_greatest T.d_greatest ["weights"] (sp_greatest K) := by
  refine T.F_greatest.ok sc_greatest (fun vs H Q E h => ?_) (fun cdv A outer s H vs Q E hr h => ?_)
  · obtain ⟨_, _, _, rfl, _⟩ := h
    rfl
  · obtain ⟨b, a, ns, rfl, hS, hpos, k⟩ := h
    refine ⟨_, (pss_cons (ps_set (i := 1) sc_greatest.nd rfl (Or.inl rfl) pe_int)
      (pss_cons (ps_for PassesOwn.never rfl (k_enumS (K := K) rfl (by rfl) T.z_enumerate (pa_cons (pv 0) pa_nil)) (k_tup (K := K) rfl rfl (pgs_cons (pg_name (i := 2) sc_greatest.nd rfl (Or.inl rfl)) (pgs_cons (pg_name (i := 3) sc_greatest.nd rfl (Or.inl rfl)) pgs_nil)))
      (pss_one (ps_if (pt_cmpR op_gt (pv 3) (pe_ix (k_ix (K := K) rfl) (pv 0) (pv 1) (fun _ _ => rfl)) (nomark _)) (pss_one (ps_set (i := 1) sc_greatest.nd rfl (Or.inl rfl) (pv 2))) pss_nil)))
      (pss_one (ps_ret (pv 1))))), ?_⟩
    refine go_start (σ' := [some (.ref a), none, none, none]) rfl ?_
    try dsimp only [cxOf, Cx.nox, Cx.wish]
    walk_at "go"
    refine l_enum (b := b) (ns.map V.int) (fun i σ H' => ∃ y2 y3, σ = [some (.ref a), some (.int (bestUpTo ns i : Nat)), y2, y3] ∧ Same H H') (by walk_at "sq") ⟨none, none, rfl, Same.refl _⟩ ?_ ?_ ?_
    · rintro i σ H' hi ⟨_, _, _, sm⟩
      exact sm.sq hS
    · rintro i x T' σ H' hi hx ⟨y2, y3, rfl, sm⟩ hT
      rw [List.length_map] at hi
      have hxe : x = .int (nth ns (i : Nat)) := by
        rw [List.getElem?_map, List.getElem?_eq_getElem hi] at hx
        rw [← Option.some.inj hx, nth_nat, List.getD_eq_getElem?_getD, List.getElem?_eq_getElem hi]
        rfl
      subst hxe
      have hb := bestUpTo_len (ns := ns) hpos (i := i) (by omega)
      have sT : Same H (upd H' T' (.tup [.int (i : Int), .int (nth ns (i : Nat))])) := sm.trans (Same.new hT)
      refine w_pair (Sq.tup upd_same) ?_
      walk_at "go"
      refine w_iteD (fun hc => ?_) (fun hc => ?_)
      · walk_at "go"
        have e : bestUpTo ns (i + 1) = i := if_pos hc
        exact ⟨_, _, by rw [e]; rfl, sT⟩
      · walk_at "go"
        have e : bestUpTo ns (i + 1) = bestUpTo ns i := if_neg hc
        exact ⟨_, _, by rw [e]; rfl, sT⟩
    · rintro σ H' ⟨y2, y3, rfl, sm⟩
      rw [List.length_map]
      walk_at "go"
      exact k _ sm

/-! ### by_number -/
/-- the place among whose share r falls is one alone -/
theorem pre_one {ns : List Int} (hn : ∀ x ∈ ns, (0 : Int) ≤ x) {r : Int} {i j : Nat} (hi : i < ns.length) (hj : j < ns.length) (h1 : pre ns i ≤ r) (h2 : r < pre ns (i + 1)) (h3 : pre ns j ≤ r) (h4 : r < pre ns (j + 1)) : i = j := by
  rcases Nat.lt_trichotomy i j with h | h | h
  · have := pre_le hn (show i + 1 ≤ j from h) (by omega); omega
  · exact h
  · have := pre_le hn (show j + 1 ≤ i from h) (by omega); omega
def sp_by_number (K : PySem.W.Frag) : Sp := fun vs H Q _ => ∃ (b : Bool) (a : Addr) (ns : List Int) (n : Int), vs = [.ref a, .int n] ∧ Sq b K H a (ns.map V.int) ∧ (∀ x ∈ ns, (0 : Int) ≤ x) ∧ 0 < ns.sum ∧
  ∀ (j : Nat) H', j < ns.length → pre ns j ≤ n % ns.sum → n % ns.sum < pre ns (j + 1) → Same H H' → Q (.int (j : Nat)) H'
theorem ok_by_number (T : Txt K mg) : FnOk P w K mg base CX0 1 T.a_by_number T.d_by_number ["weights", "number"] (sp_by_number K) := by
  refine T.F_by_number.ok sc_by_number (fun vs H Q E h => ?_) (fun cdv A outer s H vs Q E hr h => ?_)
  · obtain ⟨_, _, _, _, rfl, _⟩ := h
    rfl
  · obtain ⟨b, a, ns, n, rfl, hS, hn, hpos, k⟩ := h
    refine ⟨_, (pss_cons (ps_set (i := 2) sc_by_number.nd rfl (Or.inl rfl) (pe_op op_mod (pe_callTy cr_int1 (by rfl) T.z_int (by decide +kernel) (pa_cons (pv 1) pa_nil)) (pe_callB (k_sumS (K := K) rfl rfl) (by rfl) T.z_sum (by decide +kernel) (pa_cons (pv 0) pa_nil))))
      (pss_cons (ps_set (i := 3) sc_by_number.nd rfl (Or.inl rfl) pe_int)
      (pss_cons (ps_while PassesOwn.never (pt_cmpR op_ge (pv 2) (pe_ix (k_ix (K := K) rfl) (pv 0) (pv 3) (fun _ _ => rfl)) (nomark _))
      (pss_cons (ps_aug (i := 2) sc_by_number.nd rfl (Or.inl rfl) (pe_ix (k_ix (K := K) rfl) (pv 0) (pv 3) (fun _ _ => rfl)) ip_sub)
      (pss_one (ps_aug (i := 3) sc_by_number.nd rfl (Or.inl rfl) pe_int ip_add))))
      (pss_one (ps_ret (pv 3)))))), ?_⟩
    refine go_start (σ' := [some (.ref a), some (.int n), none, none]) rfl ?_
    try dsimp only [cxOf, Cx.nox, Cx.wish]
    walk_at "go"
    have hr0 : 0 ≤ n % ns.sum := Int.emod_nonneg _ (by omega)
    have hr1 : n % ns.sum < ns.sum := Int.emod_lt_of_pos _ hpos
    refine ⟨fun m σ H' => ∃ j : Nat, m = ns.length - j ∧ j < ns.length ∧ σ = [some (.ref a), some (.int n), some (.int (n % ns.sum - pre ns j)), some (.int (j : Nat))] ∧ pre ns j ≤ n % ns.sum ∧ H' = H, ⟨ns.length, 0, by omega, ?_, ?_, ?_, rfl⟩, ?_⟩
    · cases ns with
      | nil => exact absurd hpos (by simp)
      | cons _ _ => exact Nat.succ_pos _
    · rw [pre_zero, Int.sub_zero]; rfl
    · rw [pre_zero]; exact hr0
    · rintro m σ H' ⟨j, rfl, hj, rfl, hle, rfl⟩
      walk_at "go"
      have hs := pre_succ (ns := ns) hj
      refine w_iteD (fun hc => ?_) (fun hc => ?_)
      · have hj2 : j + 1 < ns.length := by
          rcases Nat.lt_or_ge (j + 1) ns.length with q | q
          · exact q
          · have e : j + 1 = ns.length := by omega
            rw [e, pre_all] at hs
            omega
        refine ⟨fun σ' H'' => σ' = [some (.ref a), some (.int n), some (.int (n % ns.sum - pre ns (j + 1))), some (.int ((j + 1 : Nat) : Int))] ∧ H'' = H', fun σ' H'' q => ⟨ns.length - (j + 1), by omega, j + 1, rfl, hj2, q.1, by omega, q.2⟩, ?_⟩
        walk_at "go"
        refine ⟨?_, rfl⟩
        rw [hs]
        show [some (V.ref a), some (V.int n), some (V.int (n % ns.sum - pre ns j - nth ns (j : Nat))), some (V.int ((j : Int) + 1))] = _
        rw [show n % ns.sum - pre ns j - nth ns (j : Nat) = n % ns.sum - (pre ns j + nth ns (j : Nat)) by omega]
        rfl
      · walk_at "go"
        exact k j _ hj hle (by omega) (Same.refl _)

/-! ### rules: the code -/
def vO : Option Int → V
  | none => .non
  | some i => .int i
abbrev Steps := List (List (Option Int))
def rowsV (st : Steps) : List (List V) := st.map fun r => r.map vO
structure StepsOk (st : Steps) (n L : Nat) : Prop where
  len : st.length = n
  row : ∀ r ∈ st, r.length = L
  small : ∀ r ∈ st, ∀ q : Int, some q ∈ r → 0 ≤ q ∧ q < n
  n0 : 1 ≤ n
  n1 : n ≤ 100
  L0 : 1 ≤ L
  L1 : L ≤ 100
def stepR (st : Steps) (s : Option Int) (l : Int) : Option Int := s.bind fun q => (st.getD q.toNat []).getD l.toNat none
def afterR (st : Steps) (s : Option Int) (ls : List Int) : Option Int := ls.foldl (stepR st) s
theorem afterR_none {st : Steps} : ∀ ls : List Int, afterR st none ls = none
  | [] => rfl
  | _ :: r => afterR_none r
theorem afterR_take {st : Steps} {s : Option Int} {ls : List Int} {i : Nat} (hi : i < ls.length) : afterR st s (ls.take (i + 1)) = stepR st (afterR st s (ls.take i)) (nth ls (i : Nat)) := by
  unfold afterR
  rw [List.take_add_one, List.getElem?_eq_getElem hi, List.foldl_append, nth_nat, List.getD_eq_getElem?_getD, List.getElem?_eq_getElem hi]
  rfl
/-- what a step finds -/
theorem step_at {st : Steps} {n L : Nat} (ok : StepsOk st n L) {q l : Int} (q0 : 0 ≤ q) (q1 : q < n) (l0 : 0 ≤ l) (l1 : l < L) : ∃ r x, st[q.toNat]? = some r ∧ r ∈ st ∧ r[l.toNat]? = some x ∧ stepR st (some q) l = x ∧ ∀ q', x = some q' → 0 ≤ q' ∧ q' < n := by
  have hl := ok.len
  have h1 : st[q.toNat]? = some (st[q.toNat]'(by omega)) := List.getElem?_eq_getElem (by omega)
  generalize st[q.toNat]'(by omega) = r at h1
  have hm := List.mem_of_getElem? h1
  have hr := ok.row r hm
  have h2 : r[l.toNat]? = some (r[l.toNat]'(by omega)) := List.getElem?_eq_getElem (by omega)
  generalize r[l.toNat]'(by omega) = x at h2
  refine ⟨r, x, h1, hm, h2, ?_, fun q' e => ok.small r hm q' (by rw [← e]; exact List.mem_of_getElem? h2)⟩
  unfold stepR
  simp only [Option.bind_some, List.getD_eq_getElem?_getD, h1, Option.getD_some, h2]
theorem rowsV_at {st : Steps} {i : Nat} {r : List (Option Int)} (h : st[i]? = some r) : (rowsV st)[i]? = some (r.map vO) := by
  unfold rowsV
  rw [List.getElem?_map, h]
  rfl
theorem rowsV_len (st : Steps) : (rowsV st).length = st.length := by unfold rowsV; rw [List.length_map]
theorem vO_at {r : List (Option Int)} {j : Nat} {x : Option Int} (h : r[j]? = some x) : (r.map vO)[j]? = some (vO x) := by
  rw [List.getElem?_map, h]
  rfl
/-- steps[q][l], steps at v -/
theorem steps_look {b1 b2 : Bool} {K : PySem.W.Frag} {H : Hp} {v : V} {st : Steps} {n L : Nat} (ok : StepsOk st n L) (h : RRows b1 b2 K H v (rowsV st)) {q l : Int} (q0 : 0 ≤ q) (q1 : q < n) (l0 : 0 ≤ l) (l1 : l < L) :
    ∃ a vs p r, v = .ref a ∧ Sq b1 K H a vs ∧ atI vs q = some (.ref p) ∧ Sq b2 K H p r ∧ atI r l = some (vO (stepR st (some q) l)) ∧ ∀ q', stepR st (some q) l = some q' → 0 ≤ q' ∧ q' < n := by
  obtain ⟨r, x, h1, _, h2, h3, h4⟩ := step_at ok q0 q1 l0 l1
  obtain ⟨a, vs, p, e, hs, _, hv, hp⟩ := RRows.get h (rowsV_at h1)
  refine ⟨a, vs, p, _, e, hs, ?_, hp, ?_, by rw [h3]; exact h4⟩
  · rw [show q = ((q.toNat : Nat) : Int) by omega]
    exact atI_nat hv
  · rw [h3, show l = ((l.toNat : Nat) : Int) by omega]
    exact atI_nat (vO_at h2)
theorem afterR_small {st : Steps} {n L : Nat} (ok : StepsOk st n L) : ∀ (ls : List Int) (s : Option Int), (∀ q, s = some q → 0 ≤ q ∧ q < n) → (∀ l ∈ ls, 0 ≤ l ∧ l < L) → ∀ q, afterR st s ls = some q → 0 ≤ q ∧ q < n
  | [], s, hs, _, q, e => hs q e
  | l :: r, s, hs, hl, q, e => by
    refine afterR_small ok r (stepR st s l) (fun q' e' => ?_) (fun l' h => hl l' (List.mem_cons_of_mem _ h)) q e
    have hl' := hl l (List.mem_cons_self ..)
    cases s with
    | none => cases e'
    | some p =>
      obtain ⟨_, x, _, _, _, h3, h4⟩ := step_at ok (hs p rfl).1 (hs p rfl).2 hl'.1 hl'.2
      rw [h3] at e'
      exact h4 q' e'
def RuleF (s : Int) (at_ : Addr) : List (Str × V) := [("start", .int s), ("steps", .ref at_)]
def IsRule (K : PySem.W.Frag) (C : Addr) (H : Hp) (r : Addr) (s : Int) (st : Steps) : Prop := ∃ dx at_, H r = some (.ins C dx (RuleF s at_)) ∧ RRows false false K H (.ref at_) (rowsV st)
theorem rule_same {K : PySem.W.Frag} {C : Addr} {H H' : Hp} {r : Addr} {s : Int} {st : Steps} (sm : Same H H') (h : IsRule K C H r s st) : IsRule K C H' r s st := by
  obtain ⟨dx, a, h1, h2⟩ := h
  exact ⟨dx, a, sm _ _ h1, RRows.mono _ _ _ _ sm h2⟩
theorem rule_upd {K : PySem.W.Frag} {C : Addr} {H : Hp} {r q : Addr} {xs : List V} {o : HO} {s : Int} {st : Steps} (hq : H q = some (.lst xs)) (h : IsRule K C H r s st) : IsRule K C (upd H q o) r s st := by
  obtain ⟨dx, a, h1, h2⟩ := h
  exact ⟨dx, a, (upd_ne (fun e => by rw [e, hq] at h1; cases h1)).trans h1, h2.updL hq⟩
def sp_Rule___init__ (K : PySem.W.Frag) (C : Addr) : Sp := fun vs H Q _ => ∃ (r dx : Addr) (s : Int) (v : V) (b1 b2 : Bool) (st : Steps), vs = [.ref r, .int s, v] ∧ H r = some (.ins C dx []) ∧ RRows b1 b2 K H v (rowsV st) ∧ st.length ≤ 1000 ∧
  ∀ H', Fr r H H' → IsRule K C H' r s st → Q .non H'
theorem ok_Rule___init__ (T : Txt K mg) : FnOk P w K mg base CX0 1 T.a_Rule___init__ T.d_Rule___init__ ["self", "start", "steps"] (sp_Rule___init__ K T.c_Rule) := by
  refine T.F_Rule___init__.ok sc_Rule___init__ (fun vs H Q E h => ?_) (fun cdv A outer s H vs Q E hr h => ?_)
  · obtain ⟨_, _, _, _, _, _, _, rfl, _⟩ := h
    rfl
  · obtain ⟨r, dx, s0, v, b1, b2, st, rfl, h0, hS, hz, k⟩ := h
    have cF := T.C_Rule
    have n1 := T.n_Rule_start
    have n2 := T.n_Rule_steps
    refine ⟨_, (pss_cons (k_sfld (K := K) rfl (pv 0) (pv 1) rfl)
      (pss_one (k_sfld (K := K) rfl (pv 0) (pe_callTy (k_tupS (K := K) rfl) (by rfl) T.z_tuple (by decide +kernel) (pa_cons (pe_lc (own := [("row", 3)]) (g := gName 3) (tt := tYes) rfl sc_Rule___init__.nd (k_seqS (K := K) rfl (pv 2)) (blkOk_by (own := [("row", 3)]) (by kernel_rfl)) (fun _ _ _ _ _ => (pg_name (i := 3) sc_Rule___init__.nd rfl (by first | exact Or.inl rfl | exact Or.inr rfl))) (fun _ _ _ _ _ => pts_nil) (fun _ _ _ _ _ => (pe_callTy (k_tupS (K := K) rfl) (by rfl) T.z_tuple (by decide +kernel) (pa_cons (pv 3) pa_nil)))) pa_nil)) rfl))), ?_⟩
    refine go_start (σ' := [some (.ref r), some (.int s0), some v, none]) rfl ?_
    try dsimp only [cxOf, Cx.nox, Cx.wish]
    walk_at "go"
    have f1 : Fr r H (upd H r (.ins T.c_Rule dx [("start", .int s0)])) := (Fr.refl _ _).upd _
    have h1 : (upd H r (.ins T.c_Rule dx [("start", .int s0)])) r = some (.ins T.c_Rule dx [("start", .int s0)]) := upd_same
    have hS1 := hS.fr f1 ⟨_, _, _, h0⟩
    generalize upd H r (.ins T.c_Rule dx [("start", .int s0)]) = H1 at f1 h1 hS1 ⊢
    obtain ⟨a, xs, rfl, hx, hxl, hxr⟩ := id hS1
    rw [rowsV_len] at hxl
    refine c_rep (R := RRw false K) RRw.mono RRw.tup xs hx (rowsV st) (by rw [rowsV_len]; omega) (line_of1 (by omega)) (fun _ => rfl) (fun i x d H2 N hi hxi hd s2 hN => ?_) (fun D H2 ys hD s2 e2 hyl hyr => ?_)
    · obtain ⟨p, rfl, hp⟩ := hxr i x d hxi hd
      walk_at "go"
      refine w_tupAny (s2.sq hp) fun p' H3 s3 hp' => ?_
      walk_at "go"
      exact hN _ _ s3 ⟨p', rfl, hp'⟩
    walk_at "go"
    refine w_tupL (Sq.lst e2) fun t ht => ?_
    have s3 := Same.new (o := .tup ys) ht
    have et : (upd H2 t (.tup ys)) t = some (.tup ys) := upd_same
    generalize upd H2 t (.tup ys) = H3 at s3 et ⊢
    have s13 := s2.trans s3
    have h3 := s13 _ _ h1
    have hR : RRows false false K H3 (.ref t) (rowsV st) := ⟨t, ys, rfl, Sq.tup et, hyl, fun i y d a b => RRw.mono _ _ _ _ s3 (hyr i y d a b)⟩
    walk_at "go"
    have f4 : Fr r H3 (upd H3 r (.ins T.c_Rule dx (RuleF s0 t))) := (Fr.refl _ _).upd _
    exact k _ ((f1.trans (Fr.same s13)).trans f4) ⟨dx, t, upd_same, hR.fr f4 ⟨_, _, _, h3⟩⟩
def sp_Rule_after (K : PySem.W.Frag) (C : Addr) : Sp := fun vs H Q _ => ∃ (r tp : Addr) (s : Int) (st : Steps) (n L : Nat) (b : Bool) (ls : List Int), vs = [.ref r, .ref tp] ∧ IsRule K C H r s st ∧ StepsOk st n L ∧ 0 ≤ s ∧ s < n ∧ Sq b K H tp (ls.map V.int) ∧ (∀ l ∈ ls, 0 ≤ l ∧ l < L) ∧
  Q (vO (afterR st (some s) ls)) H
theorem ok_Rule_after (T : Txt K mg) : FnOk P w K mg base CX0 1 T.a_Rule_after T.d_Rule_after ["self", "text"] (sp_Rule_after K T.c_Rule) := by
  refine T.F_Rule_after.ok sc_Rule_after (fun vs H Q E h => ?_) (fun cdv A outer s H vs Q E hr h => ?_)
  · obtain ⟨_, _, _, _, _, _, _, _, rfl, _⟩ := h
    rfl
  · obtain ⟨r, tp, s0, st, n, L, b, ls, rfl, ⟨dx, at_, h0, hR⟩, ok, hs0, hs1, hT, hls, k⟩ := h
    unfold RuleF at h0
    have cF := T.C_Rule
    have n1 := T.n_Rule_start
    have n2 := T.n_Rule_steps
    refine ⟨_, (pss_cons (ps_set (i := 2) sc_Rule_after.nd rfl (Or.inl rfl) (k_fld (K := K) rfl (pv 0) rfl))
      (pss_cons (ps_for PassesOwn.never rfl (k_seqS (K := K) rfl (pv 1)) (pg_name (i := 3) sc_Rule_after.nd rfl (Or.inl rfl))
      (pss_cons (ps_if (pt_cmpR op_isNN (pv 2) pe_non (nomark _)) (pss_one (ps_ret pe_non)) pss_nil)
      (pss_one (ps_set (i := 2) sc_Rule_after.nd rfl (Or.inl rfl) (pe_ix (k_ix (K := K) rfl) (pe_ix (k_ix (K := K) rfl) (k_fld (K := K) rfl (pv 0) rfl) (pv 2) (fun _ _ => rfl)) (pv 3) (fun _ _ => rfl))))))
      (pss_one (ps_ret (pv 2))))), ?_⟩
    refine go_start (σ' := [some (.ref r), some (.ref tp), none, none]) rfl ?_
    try dsimp only [cxOf, Cx.nox, Cx.wish]
    walk_at "go"
    refine l_seq (b := b) (ls.map V.int) (fun i σ H' => ∃ y3, σ = [some (.ref r), some (.ref tp), some (vO (afterR st (some s0) (ls.take i))), y3] ∧ H' = H) hT ⟨none, rfl, rfl⟩ (fun i σ H' _ ⟨_, _, e⟩ => by rw [e]; exact hT) ?_ ?_
    · rintro i x σ H' hi hx ⟨y3, rfl, rfl⟩
      obtain ⟨rfl, hi1⟩ := vec_at hx
      have hli := hls _ (nth_mem (ns := ls) (i := ((i : Nat) : Int)) (by omega) (by omega))
      have e := afterR_take (st := st) (s := some s0) hi1
      have hq := afterR_small ok (ls.take i) (some s0) (fun q e => by cases e; exact ⟨hs0, hs1⟩) (fun l h => hls l (List.mem_of_mem_take h))
      have hsplit : afterR st (some s0) ls = afterR st (afterR st (some s0) (ls.take i)) (ls.drop i) := by
        unfold afterR
        rw [← List.foldl_append, List.take_append_drop]
      generalize afterR st (some s0) (ls.take i) = o at e hq hsplit ⊢
      rw [e]
      cases o with
      | none =>
        dsimp only [vO]
        walk_at "go"
        rw [hsplit, afterR_none] at k
        exact k
      | some q =>
        dsimp only [vO]
        have hq := hq q rfl
        obtain ⟨a, vs, p, rr, ea, hv, hat, hp, hat2, _⟩ := steps_look ok hR hq.1 hq.2 hli.1 hli.2
        cases ea
        walk_at "go"
        refine w_ix hv hat ?_
        walk_at "go"
        refine w_ix hp hat2 ?_
        walk_at "go"
        exact ⟨_, rfl, rfl⟩
    · rintro σ H' ⟨y3, rfl, rfl⟩
      rw [List.length_map, List.take_length]
      walk_at "go"
      exact k
def sp_Rule_lets (K : PySem.W.Frag) (C : Addr) : Sp := fun vs H Q _ => ∃ (r tp : Addr) (s l : Int) (st : Steps) (n L : Nat) (b : Bool) (ls : List Int), vs = [.ref r, .ref tp, .int l] ∧ IsRule K C H r s st ∧ StepsOk st n L ∧ 0 ≤ s ∧ s < n ∧ Sq b K H tp (ls.map V.int) ∧ (∀ l ∈ ls, 0 ≤ l ∧ l < L) ∧ ls.length ≤ 100000 ∧ 0 ≤ l ∧ l < L ∧
  ∀ H', Same H H' → Q (.bl (stepR st (afterR st (some s) ls) l).isSome) H'
theorem ok_Rule_lets (T : Txt K mg) : FnOk P w K mg base CX0 2 T.a_Rule_lets T.d_Rule_lets ["self", "text", "letter"] (sp_Rule_lets K T.c_Rule) := by
  refine T.F_Rule_lets.ok sc_Rule_lets (fun vs H Q E h => ?_) (fun cdv A outer s H vs Q E hr h => ?_)
  · obtain ⟨_, _, _, _, _, _, _, _, _, rfl, _⟩ := h
    rfl
  · obtain ⟨r, tp, s0, l, st, n, L, b, ls, rfl, hI, ok, hs0, hs1, hT, hls, hz, hl0, hl1, k⟩ := h
    have cF := T.C_Rule
    obtain ⟨dx, at_, h0, hR⟩ := id hI
    unfold RuleF at h0
    refine ⟨_, (pss_one (ps_ret (pe_cmpR op_notNN (pe_meth (pv 0) T.C_Rule T.m_Rule_after (ok_Rule_after T) (hr.mono (by decide)) T.b_Rule_after .nil pass0 (pa_cons (pe_op op_catA (pe_callTy (k_tupS (K := K) rfl) (by rfl) T.z_tuple (by decide +kernel) (pa_cons (pv 1) pa_nil)) (pe_tup (pa_cons (pv 2) pa_nil))) pa_nil)) pe_non (nomark _)))), ?_⟩
    refine go_start (σ' := [some (.ref r), some (.ref tp), some (.int l)]) rfl ?_
    try dsimp only [cxOf, Cx.nox, Cx.wish]
    walk_at "go"
    refine w_tupAny hT fun p1 H1 s1 hp1 => ?_
    walk_at "go"
    refine ⟨by show 1 ≤ sizeLine; decide, fun p2 hp2 => ?_⟩
    have s2 := Same.new (o := .tup [.int l]) hp2
    refine w_catA (s2.sq hp1) (Sq.tup (xs := [.int l]) upd_same) (by rw [List.length_map]; show ls.length + 1 ≤ _; omega) fun p3 H3 s3 hp3 => ?_
    walk_at "go"
    have e : ls.map V.int ++ [.int l] = (ls ++ [l]).map V.int := by rw [List.map_append]; rfl
    rw [e] at hp3
    have s03 := (s1.trans s2).trans s3
    refine ⟨r, p3, s0, st, n, L, false, ls ++ [l], rfl, rule_same s03 hI, ok, hs0, hs1, hp3, fun l' h => ?_, ?_⟩
    · rcases List.mem_append.mp h with h | h
      · exact hls l' h
      · rw [List.mem_singleton.mp h]; exact ⟨hl0, hl1⟩
    have e2 : afterR st (some s0) (ls ++ [l]) = stepR st (afterR st (some s0) ls) l := by
      unfold afterR
      rw [List.foldl_append]; rfl
    rw [e2]
    generalize stepR st (afterR st (some s0) ls) l = o at k ⊢
    cases o with
    | none =>
      dsimp only [vO]
      walk_at "go"
      exact k _ s03
    | some q =>
      dsimp only [vO]
      walk_at "go"
      exact k _ s03

/-! ### rules compared -/
def dO : Option Int → PyData
  | none => .none
  | some i => .int i
def wr (b : Bool) (ds : List PyData) : PyData := if b then .list ds else .tuple ds
def stepsD (b1 b2 : Bool) (st : Steps) : PyData := wr b1 (st.map fun r => wr b2 (r.map dO))
theorem dp_wr {K : PySem.W.Frag} {H : Hp} {b : Bool} {a : Addr} {xs : List V} {ds : List PyData} (h : Sq b K H a xs) (hd : DpAll K H xs ds) : Dp K H (.ref a) (wr b ds) := by
  cases b
  · exact .tup h hd
  · exact .lst h hd
theorem dpAll_O {K : PySem.W.Frag} {H : Hp} : ∀ r : List (Option Int), DpAll K H (r.map vO) (r.map dO)
  | [] => .nil
  | none :: r => .cons .non (dpAll_O r)
  | some i :: r => .cons (.int i) (dpAll_O r)
theorem dp_steps {b1 b2 : Bool} {K : PySem.W.Frag} {H : Hp} {v : V} {st : Steps} (h : RRows b1 b2 K H v (rowsV st)) : Dp K H v (stepsD b1 b2 st) := by
  obtain ⟨a, vs, e, hs, hl, hr⟩ := h
  subst e
  rw [rowsV_len] at hl
  refine dp_wr hs ?_
  refine dpAll_map (R := fun H v (r : List (Option Int)) => RRw b2 K H v (r.map vO)) (H := H) (f := fun r => wr b2 (r.map dO)) (fun v r hv => ?_) hl fun i y x h1 h2 => hr i y _ h1 (rowsV_at h2)
  obtain ⟨p, e, hp⟩ := hv
  subst e
  exact dp_wr hp (dpAll_O r)
theorem lay_O (r : List (Option Int)) : PyData.canLayAll0 (r.map dO) = true := canLayAll_map (f := dO) (fun o => by cases o <;> simp only [dO, PyData.canLay0]) r
theorem lay_wr {b : Bool} {ds : List PyData} (h : PyData.canLayAll0 ds = true) : (wr b ds).canLay0 = true := by
  cases b
  · show (PyData.tuple ds).canLay0 = true
    simp only [PyData.canLay0]; exact h
  · show (PyData.list ds).canLay0 = true
    simp only [PyData.canLay0]; exact h
theorem deep_wr {b : Bool} {ds : List PyData} {n : Nat} (h : PyData.depthAll ds ≤ n) : (wr b ds).depth ≤ n + 1 := by
  cases b
  · show (PyData.tuple ds).depth ≤ n + 1
    simp only [PyData.depth]; omega
  · show (PyData.list ds).depth ≤ n + 1
    simp only [PyData.depth]; omega
theorem lay_steps (b1 b2 : Bool) (st : Steps) : (stepsD b1 b2 st).canLay0 = true := lay_wr (canLayAll_map (f := fun r => wr b2 (r.map dO)) (fun r => lay_wr (lay_O r)) st)
theorem deep_steps (b1 b2 : Bool) (st : Steps) : (stepsD b1 b2 st).depth ≤ 2 :=
  deep_wr (depthAll_map (f := fun r => wr b2 (r.map dO)) (fun r => deep_wr (depthAll_map (f := dO) (fun o => by cases o <;> simp only [dO, PyData.depth] <;> exact Nat.le_refl _) r)) st)
theorem shaped_steps (b1 b2 : Bool) (st : Steps) : SeqAt.shaped (stepsD b1 b2 st) = true := by
  unfold SeqAt.shaped
  rw [lay_steps, decide_eq_true (Nat.le_trans (deep_steps b1 b2 st) (by decide))]
  rfl
theorem eqvAll_map {α : Type} [DecidableEq α] {f : α → PyData} (h : ∀ x y, PyData.eqv (f x) (f y) = decide (x = y)) : ∀ xs ys : List α, PyData.eqvAll (xs.map f) (ys.map f) = decide (xs = ys)
  | [], [] => by simp only [List.map_nil, PyData.eqvAll, decide_true]
  | [], y :: ys => by simp only [List.map_nil, List.map_cons, PyData.eqvAll]; simp
  | x :: xs, [] => by simp only [List.map_nil, List.map_cons, PyData.eqvAll]; simp
  | x :: xs, y :: ys => by
    simp only [List.map_cons, PyData.eqvAll, h x y, eqvAll_map h xs ys, List.cons.injEq]
    by_cases h1 : x = y <;> by_cases h2 : xs = ys <;> simp [h1, h2]
theorem eqv_wr {b : Bool} {ds es : List PyData} : PyData.eqv (wr b ds) (wr b es) = PyData.eqvAll ds es := by
  cases b
  · show PyData.eqv (.tuple ds) (.tuple es) = _
    simp only [PyData.eqv]
  · show PyData.eqv (.list ds) (.list es) = _
    simp only [PyData.eqv]
theorem eqv_O (x y : Option Int) : PyData.eqv (dO x) (dO y) = decide (x = y) := by
  cases x <;> cases y <;> simp only [dO, PyData.eqv] <;> simp
  rename_i a b
  by_cases h : a = b <;> simp [h]
theorem eqv_steps (b1 b2 : Bool) (st st' : Steps) : PyData.eqv (stepsD b1 b2 st) (stepsD b1 b2 st') = decide (st = st') := by
  unfold stepsD
  rw [eqv_wr]
  exact eqvAll_map (fun r r' => by rw [eqv_wr]; exact eqvAll_map eqv_O r r') st st'
def pairD (s : Int) (st : Steps) : PyData := .tuple [.int s, stepsD false false st]
theorem shaped_pair (s : Int) (st : Steps) : SeqAt.shaped (pairD s st) = true := by
  have h1 : (pairD s st).canLay0 = true := by
    unfold pairD
    simp only [PyData.canLay0, PyData.canLayAll0, lay_steps, Bool.and_self]
  have h2 : (pairD s st).depth ≤ 64 := by
    unfold pairD
    simp only [PyData.depth, PyData.depthAll]
    have := deep_steps false false st
    omega
  unfold SeqAt.shaped
  rw [h1, decide_eq_true h2]
  rfl
theorem eqv_pair (s s' : Int) (st st' : Steps) : PyData.eqv (pairD s st) (pairD s' st') = decide (s = s' ∧ st = st') := by
  unfold pairD
  simp only [PyData.eqv, PyData.eqvAll, eqv_steps]
  by_cases h1 : s = s' <;> by_cases h2 : st = st' <;> simp [h1, h2]
def sp_Rule___eq__ (K : PySem.W.Frag) (C : Addr) : Sp := fun vs H Q _ => ∃ (r : Addr) (s : Int) (st : Steps) (y : V), vs = [.ref r, y] ∧ IsRule K C H r s st ∧
  ((∃ (r2 : Addr) (s2 : Int) (st2 : Steps), y = .ref r2 ∧ IsRule K C H r2 s2 st2 ∧ ∀ H', Same H H' → Q (.bl (decide (s = s2 ∧ st = st2))) H') ∨
    ∃ n : String, TyX K H y (.type n) ∧ PySem.W.subIn K (.type n) (.ref C) = some false ∧ Q (.bl false) H)
theorem ok_Rule___eq__ (T : Txt K mg) : FnOk P w K mg base CX0 1 T.a_Rule___eq__ T.d_Rule___eq__ ["self", "other"] (sp_Rule___eq__ K T.c_Rule) := by
  refine T.F_Rule___eq__.ok sc_Rule___eq__ (fun vs H Q E h => ?_) (fun cdv A outer s H vs Q E hr h => ?_)
  · obtain ⟨_, _, _, _, rfl, _⟩ := h
    rfl
  · obtain ⟨r, s0, st, y, rfl, ⟨dx, at_, h0, hR⟩, h⟩ := h
    unfold RuleF at h0
    have cF := T.C_Rule
    have n1 := T.n_Rule_start
    have n2 := T.n_Rule_steps
    refine ⟨_, (pss_cons (ps_if (pt_not (k_tru (K := K) rfl (pe_callB (k_isi (K := K) rfl) (by rfl) T.z_isinstance (by decide +kernel) (pa_cons (pv 1) (pa_cons (pe_glob (v := .ref T.c_Rule) (by rfl) T.gc_Rule rfl) pa_nil))) (by intro _; rfl))) (pss_one (ps_ret pe_bl)) pss_nil)
      (pss_one (ps_ret (pe_cmpR (k_eqG (K := K) rfl hr.units) (pe_tup (pa_cons (k_fld (K := K) rfl (pv 0) rfl) (pa_cons (k_fld (K := K) rfl (pv 0) rfl) pa_nil))) (pe_tup (pa_cons (k_fld (K := K) rfl (pv 1) rfl) (pa_cons (k_fld (K := K) rfl (pv 1) rfl) pa_nil))) (nomark _))))), ?_⟩
    refine go_start (σ' := [some (.ref r), some y]) rfl ?_
    try dsimp only [cxOf, Cx.nox, Cx.wish]
    rcases h with ⟨r2, s2, st2, rfl, ⟨dx2, at2, h02, hR2⟩, k⟩ | ⟨n, ht, hsub, k⟩
    · unfold RuleF at h02
      walk_at "go"
      refine w_isOwn T.o_Rule cF h02 ?_
      walk_at "go"
      refine ⟨by show 2 ≤ sizeLine; decide, fun p1 hp1 => ?_⟩
      have s1 := Same.new (o := .tup [.int s0, .ref at_]) hp1
      have e1 : (upd H p1 (.tup [.int s0, .ref at_])) p1 = some (.tup [.int s0, .ref at_]) := upd_same
      generalize upd H p1 (.tup [.int s0, .ref at_]) = H1 at s1 e1 ⊢
      have h02 := s1 _ _ h02
      walk_at "go"
      refine ⟨by show 2 ≤ sizeLine; decide, fun p2 hp2 => ?_⟩
      have s2' := Same.new (o := .tup [.int s2, .ref at2]) hp2
      have e2 : (upd H1 p2 (.tup [.int s2, .ref at2])) p2 = some (.tup [.int s2, .ref at2]) := upd_same
      generalize upd H1 p2 (.tup [.int s2, .ref at2]) = H2 at s2' e2 ⊢
      have s12 := s1.trans s2'
      refine w_eqD (d := pairD s0 st) (e := pairD s2 st2) (.tup (SqT.of (s2' _ _ e1)) (.cons (.int _) (.cons (dp_steps (RRows.mono _ _ _ _ s12 hR)) .nil))) (.tup (SqT.of e2) (.cons (.int _) (.cons (dp_steps (RRows.mono _ _ _ _ s12 hR2)) .nil))) (shaped_pair _ _) (shaped_pair _ _) ?_
      rw [eqv_pair]
      exact k _ s12
    · walk_at "go"
      refine w_isNot T.o_Rule ht hsub ?_
      walk_at "go"
      exact k

/-! ### asks -/
structure AskD where
  prompt : List Nat
  most : Nat
  stops : List (List Nat)
  tape : List Int
  rule : Option (Int × Steps)
def RuleOk (L : Nat) : Option (Int × Steps) → Prop
  | none => True
  | some (s, st) => ∃ n, StepsOk st n L ∧ 0 ≤ s ∧ s < n
structure AskOk (ak : AskD) (L : Nat) : Prop where
  prompt : ∀ l ∈ ak.prompt, l < L
  plen : 1 ≤ ak.prompt.length ∧ ak.prompt.length ≤ 30
  most : 1 ≤ ak.most ∧ ak.most ≤ 30
  stops : ∀ s ∈ ak.stops, 1 ≤ s.length ∧ s.length ≤ 10 ∧ ∀ l ∈ s, l < L
  slen : ak.stops.length ≤ 10
  tape : ∀ t ∈ ak.tape, (0 : Int) ≤ t
  tlen : ak.tape.length ≤ 100
  rule : RuleOk L ak.rule
def stopsV (ss : List (List Nat)) : List (List V) := ss.map fun s => (natI s).map V.int
def IsRuleV (K : PySem.W.Frag) (CR : Addr) (H : Hp) (v : V) : Option (Int × Steps) → Prop
  | none => v = .non
  | some (s, st) => ∃ r, v = .ref r ∧ IsRule K CR H r s st
def AskF (ap : Addr) (most : Nat) (as_ at_ : Addr) (vr : V) : List (Str × V) := [("prompt", .ref ap), ("most", .int most), ("stops", .ref as_), ("tape", .ref at_), ("rule", vr)]
def IsAsk (K : PySem.W.Frag) (CA CR : Addr) (H : Hp) (a : Addr) (ak : AskD) : Prop := ∃ dx ap as_ at_ vr, H a = some (.ins CA dx (AskF ap ak.most as_ at_ vr)) ∧ Sq false K H ap ((natI ak.prompt).map V.int) ∧ RRows false false K H (.ref as_) (stopsV ak.stops) ∧ Sq false K H at_ (ak.tape.map V.int) ∧ IsRuleV K CR H vr ak.rule
theorem ruleV_same {K : PySem.W.Frag} {CR : Addr} {H H' : Hp} {v : V} {ru : Option (Int × Steps)} (sm : Same H H') (h : IsRuleV K CR H v ru) : IsRuleV K CR H' v ru := by
  cases ru with
  | none => exact h
  | some p =>
    obtain ⟨r, e, hr⟩ := h
    exact ⟨r, e, rule_same sm hr⟩
theorem ask_same {K : PySem.W.Frag} {CA CR : Addr} {H H' : Hp} {a : Addr} {ak : AskD} (sm : Same H H') (h : IsAsk K CA CR H a ak) : IsAsk K CA CR H' a ak := by
  obtain ⟨dx, ap, as_, at_, vr, h1, h2, h3, h4, h5⟩ := h
  exact ⟨dx, ap, as_, at_, vr, sm _ _ h1, sm.sq h2, RRows.mono _ _ _ _ sm h3, sm.sq h4, ruleV_same sm h5⟩
theorem rule_fr {K : PySem.W.Frag} {C : Addr} {H H' : Hp} {r t : Addr} {s : Int} {st : Steps} (f : Fr t H H') (ht : ∃ C dx fs, H t = some (.ins C dx fs)) (hrt : r ≠ t) (h : IsRule K C H r s st) : IsRule K C H' r s st := by
  obtain ⟨dx, a, h1, h2⟩ := h
  exact ⟨dx, a, f _ _ hrt h1, h2.fr f ht⟩
def sp_Ask___init__ (K : PySem.W.Frag) (CA CR : Addr) : Sp := fun vs H Q _ => ∃ (a dx : Addr) (ak : AskD) (v1 v2 v3 vr : V) (b1 b2 : Bool) (L : Nat), vs = [.ref a, v1, .int ak.most, v2, v3, vr] ∧ H a = some (.ins CA dx []) ∧ AskOk ak L ∧
  RVecX K H v1 (natI ak.prompt) ∧ RRows b1 b2 K H v2 (stopsV ak.stops) ∧ RVecX K H v3 ak.tape ∧ IsRuleV K CR H vr ak.rule ∧ vr ≠ .ref a ∧ ∀ H', Fr a H H' → IsAsk K CA CR H' a ak → Q .non H'
theorem ok_Ask___init__ (T : Txt K mg) : FnOk P w K mg base CX0 3 T.a_Ask___init__ T.d_Ask___init__ ["self", "prompt", "most", "stops", "tape", "rule"] (sp_Ask___init__ K T.c_Ask T.c_Rule) := by
  refine T.F_Ask___init__.ok sc_Ask___init__ (fun vs H Q E h => ?_) (fun cdv A outer s H vs Q E hr h => ?_)
  · obtain ⟨_, _, _, _, _, _, _, _, _, _, rfl, _⟩ := h
    rfl
  · obtain ⟨a, dx, ak, v1, v2, v3, vr, b1, b2, L, rfl, h0, ok, h1, h2, h3, h4, hra, k⟩ := h
    have cA := T.C_Ask
    have n1 := T.n_Ask_prompt
    have n2 := T.n_Ask_most
    have n3 := T.n_Ask_stops
    have n4 := T.n_Ask_tape
    have n5 := T.n_Ask_rule
    have hm := ok.most
    have hsl := ok.slen
    refine ⟨_, (pss_cons (ps_if (pt_not (k_tru (K := K) rfl (pe_call (ok_is_between T) (hr.mono (by decide)) (by rfl) T.g_is_between T.F_is_between.kp T.b_is_between .nil pass0 (pa_cons (pv 2) (pa_cons pe_int (pa_cons (pe_glob (v := .int 30) (by rfl) T.gk_MOST_LETTERS ⟨_, rfl⟩) pa_nil)))) (by intro _; rfl))) (pss_one ps_never) pss_nil)
      (pss_cons (k_sfld (K := K) rfl (pv 0) (pe_callTy (k_tupS (K := K) rfl) (by rfl) T.z_tuple (by decide +kernel) (pa_cons (pv 1) pa_nil)) rfl)
      (pss_cons (k_sfld (K := K) rfl (pv 0) (pv 2) rfl)
      (pss_cons (k_sfld (K := K) rfl (pv 0) (pe_callTy (k_tupS (K := K) rfl) (by rfl) T.z_tuple (by decide +kernel) (pa_cons (pe_lc (own := [("stop", 6)]) (g := gName 6) (tt := tYes) rfl sc_Ask___init__.nd (k_seqS (K := K) rfl (pv 3)) (blkOk_by (own := [("stop", 6)]) (by kernel_rfl)) (fun _ _ _ _ _ => (pg_name (i := 6) sc_Ask___init__.nd rfl (by first | exact Or.inl rfl | exact Or.inr rfl))) (fun _ _ _ _ _ => pts_nil) (fun _ _ _ _ _ => (pe_callTy (k_tupS (K := K) rfl) (by rfl) T.z_tuple (by decide +kernel) (pa_cons (pv 6) pa_nil)))) pa_nil)) rfl)
      (pss_cons (k_sfld (K := K) rfl (pv 0) (pe_callTy (k_tupS (K := K) rfl) (by rfl) T.z_tuple (by decide +kernel) (pa_cons (pv 4) pa_nil)) rfl)
      (pss_one (k_sfld (K := K) rfl (pv 0) (pv 5) rfl))))))), ?_⟩
    refine go_start (σ' := [some (.ref a), some v1, some (.int ak.most), some v2, some v3, some vr, none]) rfl ?_
    try dsimp only [cxOf, Cx.nox, Cx.wish]
    walk_at "go"
    refine ⟨.int ak.most, 1, 30, _, rfl, .inl ⟨_, rfl, rfl⟩, ?_⟩
    rw [decide_eq_true (show (1 : Int) ≤ (ak.most : Int) ∧ (ak.most : Int) ≤ 30 by omega)]
    walk_at "go"
    obtain ⟨c1, a1, rfl, hq1⟩ := h1
    obtain ⟨c3, a3, rfl, hq3⟩ := h3
    have hr4 : ∀ {H1 H2 : Hp}, Fr a H1 H2 → (∃ C dx fs, H1 a = some (.ins C dx fs)) → IsRuleV K T.c_Rule H1 vr ak.rule → IsRuleV K T.c_Rule H2 vr ak.rule := fun {H1 H2} f ha h => by
      revert h
      cases ak.rule with
      | none => exact fun h => h
      | some p =>
        rintro ⟨r, e, h⟩
        exact ⟨r, e, rule_fr f ha (fun z => hra (by rw [e, z])) h⟩
    -- prompt
    refine w_tupAny hq1 fun ap H1 s1 hap => ?_
    have h01 := s1 _ _ h0
    have q2 := RRows.mono _ _ _ _ s1 h2
    have q3 := s1.sq hq3
    have q4 := ruleV_same s1 h4
    walk_at "go"
    have f2 : Fr a H1 (upd H1 a (.ins T.c_Ask dx [("prompt", .ref ap)])) := (Fr.refl _ _).upd _
    have h02 : (upd H1 a (.ins T.c_Ask dx [("prompt", .ref ap)])) a = some (.ins T.c_Ask dx [("prompt", .ref ap)]) := upd_same
    generalize upd H1 a (.ins T.c_Ask dx [("prompt", .ref ap)]) = H2 at f2 h02 ⊢
    have hap := f2.sqI ⟨_, _, _, h01⟩ hap
    have q2 := q2.fr f2 ⟨_, _, _, h01⟩
    have q3 := f2.sqI ⟨_, _, _, h01⟩ q3
    have q4 := hr4 f2 ⟨_, _, _, h01⟩ q4
    walk_at "go"
    -- most
    have f3 : Fr a H2 (upd H2 a (.ins T.c_Ask dx [("prompt", .ref ap), ("most", .int ak.most)])) := (Fr.refl _ _).upd _
    have h03 : (upd H2 a (.ins T.c_Ask dx [("prompt", .ref ap), ("most", .int ak.most)])) a = some (.ins T.c_Ask dx [("prompt", .ref ap), ("most", .int ak.most)]) := upd_same
    generalize upd H2 a (.ins T.c_Ask dx [("prompt", .ref ap), ("most", .int ak.most)]) = H3 at f3 h03 ⊢
    have hap := f3.sqI ⟨_, _, _, h02⟩ hap
    have q2 := q2.fr f3 ⟨_, _, _, h02⟩
    have q3 := f3.sqI ⟨_, _, _, h02⟩ q3
    have q4 := hr4 f3 ⟨_, _, _, h02⟩ q4
    -- stops
    obtain ⟨a2, xs, rfl, hx, hxl, hxr⟩ := id q2
    have esl : (stopsV ak.stops).length = ak.stops.length := by unfold stopsV; rw [List.length_map]
    rw [esl] at hxl
    walk_at "go"
    refine c_rep (R := RRw false K) RRw.mono RRw.tup xs hx (stopsV ak.stops) (by omega) (line_of1 (by omega)) (fun _ => rfl) (fun i x d H4 N hi hxi hd s4 hN => ?_) (fun D H4 ys hD s4 e4 hyl hyr => ?_)
    · obtain ⟨p, rfl, hp⟩ := hxr i x d hxi hd
      walk_at "go"
      refine w_tupAny (s4.sq hp) fun p' H5 s5 hp' => ?_
      walk_at "go"
      exact hN _ _ s5 ⟨p', rfl, hp'⟩
    walk_at "go"
    refine w_tupL (Sq.lst e4) fun as_ has => ?_
    have s5 := Same.new (o := .tup ys) has
    have hS5 : RRows false false K (upd H4 as_ (.tup ys)) (.ref as_) (stopsV ak.stops) := ⟨as_, ys, rfl, Sq.tup upd_same, hyl, fun i y d a b => RRw.mono _ _ _ _ s5 (hyr i y d a b)⟩
    generalize upd H4 as_ (.tup ys) = H5 at s5 hS5 ⊢
    have s35 := s4.trans s5
    have h05 := s35 _ _ h03
    have hap := s35.sq hap
    have q3 := s35.sq q3
    have q4 := ruleV_same s35 q4
    walk_at "go"
    have f6 : Fr a H5 (upd H5 a (.ins T.c_Ask dx [("prompt", .ref ap), ("most", .int ak.most), ("stops", .ref as_)])) := (Fr.refl _ _).upd _
    have h06 : (upd H5 a (.ins T.c_Ask dx [("prompt", .ref ap), ("most", .int ak.most), ("stops", .ref as_)])) a = some (.ins T.c_Ask dx [("prompt", .ref ap), ("most", .int ak.most), ("stops", .ref as_)]) := upd_same
    generalize upd H5 a (.ins T.c_Ask dx [("prompt", .ref ap), ("most", .int ak.most), ("stops", .ref as_)]) = H6 at f6 h06 ⊢
    have hap := f6.sqI ⟨_, _, _, h05⟩ hap
    have hS6 := hS5.fr f6 ⟨_, _, _, h05⟩
    have q3 := f6.sqI ⟨_, _, _, h05⟩ q3
    have q4 := hr4 f6 ⟨_, _, _, h05⟩ q4
    walk_at "go"
    -- tape
    refine w_tupAny q3 fun at_ H7 s7 hat => ?_
    have h07 := s7 _ _ h06
    have hap := s7.sq hap
    have hS7 := RRows.mono _ _ _ _ s7 hS6
    have q4 := ruleV_same s7 q4
    walk_at "go"
    have f8 : Fr a H7 (upd H7 a (.ins T.c_Ask dx [("prompt", .ref ap), ("most", .int ak.most), ("stops", .ref as_), ("tape", .ref at_)])) := (Fr.refl _ _).upd _
    have h08 : (upd H7 a (.ins T.c_Ask dx [("prompt", .ref ap), ("most", .int ak.most), ("stops", .ref as_), ("tape", .ref at_)])) a = some (.ins T.c_Ask dx [("prompt", .ref ap), ("most", .int ak.most), ("stops", .ref as_), ("tape", .ref at_)]) := upd_same
    generalize upd H7 a (.ins T.c_Ask dx [("prompt", .ref ap), ("most", .int ak.most), ("stops", .ref as_), ("tape", .ref at_)]) = H8 at f8 h08 ⊢
    have hap := f8.sqI ⟨_, _, _, h07⟩ hap
    have hS8 := hS7.fr f8 ⟨_, _, _, h07⟩
    have hat := f8.sqI ⟨_, _, _, h07⟩ hat
    have q4 := hr4 f8 ⟨_, _, _, h07⟩ q4
    walk_at "go"
    have f9 : Fr a H8 (upd H8 a (.ins T.c_Ask dx (AskF ap ak.most as_ at_ vr))) := (Fr.refl _ _).upd _
    exact k _ ((((((((Fr.same s1).trans f2).trans f3).trans (Fr.same s35)).trans f6).trans (Fr.same s7)).trans f8).trans f9)
      ⟨dx, ap, as_, at_, vr, upd_same, f9.sqI ⟨_, _, _, h08⟩ hap, hS8.fr f9 ⟨_, _, _, h08⟩, f9.sqI ⟨_, _, _, h08⟩ hat, hr4 f9 ⟨_, _, _, h08⟩ q4⟩
def letW (ru : Option (Int × Steps)) (ws : List Int) (text : List Nat) : List Int := match ru with
  | none => ws
  | some (s, st) => (List.range ws.length).map fun l => nth ws ((l : Nat) : Int) * (if (stepR st (afterR st (some s) (natI text)) ((l : Nat) : Int)).isSome then 1 else 0)
theorem letW_len (ru : Option (Int × Steps)) (ws : List Int) (text : List Nat) : (letW ru ws text).length = ws.length := by
  cases ru with
  | none => rfl
  | some p => show ((List.range ws.length).map _).length = _; rw [List.length_map, List.length_range]
theorem letW_nth {s : Int} {st : Steps} {ws : List Int} {text : List Nat} {l : Nat} (h : l < ws.length) : nth (letW (some (s, st)) ws text) ((l : Nat) : Int) = nth ws ((l : Nat) : Int) * (if (stepR st (afterR st (some s) (natI text)) ((l : Nat) : Int)).isSome then 1 else 0) := by
  show nth ((List.range ws.length).map _) _ = _
  rw [nth_nat, List.getD_eq_getElem?_getD, List.getElem?_map, List.getElem?_eq_getElem (by rw [List.length_range]; exact h), List.getElem_range]
  rfl
def sp_Ask_let_weights (K : PySem.W.Frag) (CA CR : Addr) : Sp := fun vs H Q _ => ∃ (a : Addr) (ak : AskD) (v1 v2 : V) (ws : List Int) (text : List Nat) (L : Nat), vs = [.ref a, v1, v2] ∧ IsAsk K CA CR H a ak ∧ AskOk ak L ∧ RVecX K H v1 ws ∧ ws.length = L ∧ (∀ x ∈ ws, 0 ≤ x ∧ x ≤ 1000) ∧ RVecX K H v2 (natI text) ∧ (∀ l ∈ text, l < L) ∧ text.length ≤ 1000 ∧ L ≤ 100 ∧
  ∀ v' H', Same H H' → RVec false K H' v' (letW ak.rule ws text) → Q v' H'
theorem natI_lt {ls : List Nat} {L : Nat} (h : ∀ l ∈ ls, l < L) : ∀ l ∈ natI ls, (0 : Int) ≤ l ∧ l < L := fun l hl => by
  unfold natI at hl
  obtain ⟨x, hx, rfl⟩ := List.mem_map.mp hl
  have := h x hx
  omega
theorem ok_Ask_let_weights (T : Txt K mg) : FnOk P w K mg base CX0 3 T.a_Ask_let_weights T.d_Ask_let_weights ["self", "weights", "text"] (sp_Ask_let_weights K T.c_Ask T.c_Rule) := by
  refine T.F_Ask_let_weights.ok sc_Ask_let_weights (fun vs H Q E h => ?_) (fun cdv A outer s H vs Q E hr h => ?_)
  · obtain ⟨_, _, _, _, _, _, _, rfl, _⟩ := h
    rfl
  · obtain ⟨a, ak, v1, v2, ws, text, L, rfl, hA, ok, ⟨b1, a1, rfl, h1⟩, hwl, hwb, ⟨b2, a2, rfl, h2⟩, htx, htl, hL, k⟩ := h
    have cA := T.C_Ask
    have cR := T.C_Rule
    have n5 := T.n_Ask_rule
    obtain ⟨dx, ap, as_, at_, vr, h0, _, _, _, hru⟩ := hA
    unfold AskF at h0
    have hro := ok.rule
    refine ⟨_, (pss_cons (ps_if (pt_cmpR op_isNN (k_fld (K := K) rfl (pv 0) rfl) pe_non (nomark _)) (pss_one (ps_ret (pe_callTy (k_tupS (K := K) rfl) (by rfl) T.z_tuple (by decide +kernel) (pa_cons (pv 1) pa_nil)))) pss_nil)
      (pss_one (ps_ret (pe_callTy (k_tupS (K := K) rfl) (by rfl) T.z_tuple (by decide +kernel) (pa_cons (pe_lc (own := [("letter", 3), ("weight", 4)]) (g := gTup K 2 (gCons (gName 3) (gCons (gName 4) (gNil)))) (tt := tYes) rfl sc_Ask_let_weights.nd (k_enumS (K := K) rfl (by rfl) T.z_enumerate (pa_cons (pv 1) pa_nil)) (blkOk_by (own := [("letter", 3), ("weight", 4)]) (by kernel_rfl)) (fun _ _ _ _ _ => (k_tup (K := K) rfl rfl (pgs_cons (pg_name (i := 3) sc_Ask_let_weights.nd rfl (by first | exact Or.inl rfl | exact Or.inr rfl)) (pgs_cons (pg_name (i := 4) sc_Ask_let_weights.nd rfl (by first | exact Or.inl rfl | exact Or.inr rfl)) pgs_nil)))) (fun _ _ _ _ _ => pts_nil) (fun _ _ _ _ _ => (pe_op op_mul (pv 4) (pe_callTy cr_int1 (by rfl) T.z_int (by decide +kernel) (pa_cons (pe_meth (k_fld (K := K) rfl (pv 0) rfl) T.C_Rule T.m_Rule_lets (ok_Rule_lets T) (hr.mono (by decide)) T.b_Rule_lets .nil pass0 (pa_cons (pv 2) (pa_cons (pv 3) pa_nil))) pa_nil))))) pa_nil))))), ?_⟩
    refine go_start (σ' := [some (.ref a), some (.ref a1), some (.ref a2), none, none]) rfl ?_
    try dsimp only [cxOf, Cx.nox, Cx.wish]
    revert k hru hro
    cases ak.rule with
    | none =>
      intro k hru hro
      have hru : vr = .non := hru
      subst hru
      walk_at "go"
      refine w_tupAny h1 fun p H1 s1 hp => ?_
      walk_at "go"
      exact k _ _ s1 ⟨p, rfl, hp⟩
    | some p =>
      obtain ⟨s0, st⟩ := p
      intro k hru hro
      obtain ⟨r, rfl, hI⟩ := hru
      obtain ⟨n, okS, hs0, hs1⟩ := hro
      walk_at "go"
      refine c_intsE (b := b1) (ws.map V.int) h1 (letW (some (s0, st)) ws text) (by rw [letW_len, List.length_map]) (line_of1 (by rw [List.length_map]; omega)) (fun _ _ => rfl) (fun i x H1 N hi hx s1 hN => ?_) (fun D H1 hD s1 e1 => ?_)
      · obtain ⟨rfl, hi1⟩ := vec_at hx
        have h01 := s1 _ _ h0
        have hI1 := rule_same s1 hI
        obtain ⟨dx2, at2, h02, _⟩ := id hI1
        unfold RuleF at h02
        have hb := hwb _ (nth_mem (ns := ws) (i := ((i : Nat) : Int)) (by omega) (by omega))
        walk_at "go"
        refine ⟨r, a2, s0, _, st, n, L, b2, natI text, rfl, hI1, okS, hs0, hs1, s1.sq h2, natI_lt htx, by rw [natI_len]; omega, by omega, by omega, fun H2 s2 => ?_⟩
        have e := letW_nth (s := s0) (st := st) (text := text) hi1
        have hN2 := hN _ s2
        rw [e] at hN2
        cases hx : (stepR st (afterR st (some s0) (natI text)) ((i : Nat) : Int)).isSome with
        | true =>
          rw [hx] at hN2
          walk_at "go"
          exact hN2
        | false =>
          rw [hx] at hN2
          walk_at "go"
          exact hN2
      walk_at "go"
      refine w_tupL (Sq.lst e1) fun t ht => ?_
      walk_at "go"
      exact k _ _ (s1.trans (Same.new ht)) ⟨t, rfl, Sq.tup upd_same⟩

/-! ### the choice -/
theorem eqvAll_mapI : ∀ xs ys : List Int, PyData.eqvAll (xs.map PyData.int) (ys.map PyData.int) = decide (xs = ys)
  | [], [] => by simp only [List.map_nil, PyData.eqvAll, decide_true]
  | [], y :: ys => by simp only [List.map_nil, List.map_cons, PyData.eqvAll]; simp
  | x :: xs, [] => by simp only [List.map_nil, List.map_cons, PyData.eqvAll]; simp
  | x :: xs, y :: ys => by
    simp only [List.map_cons, PyData.eqvAll, eqvAll_mapI xs ys, List.cons.injEq, PyData.eqv]
    by_cases h1 : x = y <;> by_cases h2 : xs = ys <;> simp [h1, h2]
theorem w_eqInts {K : PySem.W.Frag} {H : Hp} {Q : VK} {a a' : Addr} {ns ms : List Int} (h : Sq false K H a (ns.map V.int)) (h' : Sq false K H a' (ms.map V.int)) (q : Q (.bl (decide (ns = ms))) H) : rEqG K (.ref a) (.ref a') H Q :=
  w_eqD (dp_ints h) (dp_ints h') (shaped_intsT ns) (shaped_intsT ms) (by
    have e : PyData.eqv (.tuple (ns.map PyData.int)) (.tuple (ms.map PyData.int)) = decide (ns = ms) := by simp only [PyData.eqv, eqvAll_mapI]
    show Q (.bl (PyData.eqv (.tuple (ns.map PyData.int)) (.tuple (ms.map PyData.int)))) H
    rw [e]; exact q)
theorem natI_inj : ∀ {a b : List Nat}, natI a = natI b ↔ a = b := fun {a b} => by
  unfold natI
  constructor
  · intro h
    have h2 := congrArg (List.map Int.toNat) h
    rw [List.map_map, List.map_map] at h2
    have e : ∀ ls : List Nat, List.map (Int.toNat ∘ fun n : Nat => (n : Int)) ls = ls := fun ls => by
      have : (Int.toNat ∘ fun n : Nat => (n : Int)) = id := by funext n; exact Int.toNat_natCast n
      rw [this, List.map_id]
    rw [e, e] at h2
    exact h2
  · intro h; rw [h]
open Classical in
noncomputable def numOf (ws : List Int) (r : Int) : Nat := if h : ∃ j, j < ws.length ∧ pre ws j ≤ r ∧ r < pre ws (j + 1) then Classical.choose h else 0
theorem numOf_eq {ws : List Int} (hn : ∀ x ∈ ws, (0 : Int) ≤ x) {r : Int} {j : Nat} (hj : j < ws.length) (h1 : pre ws j ≤ r) (h2 : r < pre ws (j + 1)) : numOf ws r = j := by
  unfold numOf
  rw [dif_pos ⟨j, hj, h1, h2⟩]
  have h := Classical.choose_spec (⟨j, hj, h1, h2⟩ : ∃ j, j < ws.length ∧ pre ws j ≤ r ∧ r < pre ws (j + 1))
  exact pre_one hn h.1 hj h.2.1 h.2.2 h1 h2
def vN : Option Nat → V
  | none => .non
  | some l => .int (l : Nat)
noncomputable def choiceD (ru : Option (Int × Steps)) (tape ws : List Int) (text : List Nat) : Option Nat :=
  if (letW ru ws text).sum = 0 then none else if tape.length = 0 then some (bestUpTo (letW ru ws text) (letW ru ws text).length)
  else some (numOf (letW ru ws text) (nth tape ((text.length : Int) % (tape.length : Int)) % (letW ru ws text).sum))
theorem letW_nonneg {ru : Option (Int × Steps)} {ws : List Int} {text : List Nat} (h : ∀ x ∈ ws, (0 : Int) ≤ x) : ∀ x ∈ letW ru ws text, (0 : Int) ≤ x := by
  cases ru with
  | none => exact h
  | some p =>
    obtain ⟨s, st⟩ := p
    intro x hx
    obtain ⟨l, hl, rfl⟩ := List.mem_map.mp hx
    have h1 := h _ (nth_mem (ns := ws) (i := ((l : Nat) : Int)) (by omega) (by have := List.mem_range.mp hl; omega))
    split
    · rw [Int.mul_one]; exact h1
    · rw [Int.mul_zero]; exact Int.le_refl _
theorem choice_lt {ru : Option (Int × Steps)} {tape ws : List Int} {text : List Nat} {l : Nat} (h : ∀ x ∈ ws, (0 : Int) ≤ x) (hc : choiceD ru tape ws text = some l) : l < ws.length := by
  unfold choiceD at hc
  have hl := letW_len ru ws text
  have hn := letW_nonneg (ru := ru) (text := text) h
  by_cases h0 : (letW ru ws text).sum = 0
  · rw [if_pos h0] at hc; cases hc
  · rw [if_neg h0] at hc
    have hpos : 0 < (letW ru ws text).length := by
      rcases Nat.eq_zero_or_pos (letW ru ws text).length with e | e
      · rw [List.length_eq_zero_iff.mp e] at h0
        exact absurd rfl h0
      · exact e
    by_cases h1 : tape.length = 0
    · rw [if_pos h1] at hc
      cases hc
      have := bestUpTo_len hpos (Nat.le_refl _)
      omega
    · rw [if_neg h1] at hc
      cases hc
      unfold numOf
      split
      · rename_i hh
        have := (Classical.choose_spec hh).1
        omega
      · omega
def sp_Ask_choice (K : PySem.W.Frag) (CA CR : Addr) : Sp := fun vs H Q _ => ∃ (a : Addr) (ak : AskD) (v1 v2 : V) (ws : List Int) (text : List Nat) (L : Nat), vs = [.ref a, v1, v2] ∧ IsAsk K CA CR H a ak ∧ AskOk ak L ∧ RVecX K H v1 ws ∧ ws.length = L ∧ (∀ x ∈ ws, 0 ≤ x ∧ x ≤ 1000) ∧ RVecX K H v2 (natI text) ∧ (∀ l ∈ text, l < L) ∧ text.length ≤ 1000 ∧ L ≤ 100 ∧
  ∀ H', Same H H' → Q (vN (choiceD ak.rule ak.tape ws text)) H'
theorem ok_Ask_choice (T : Txt K mg) : FnOk P w K mg base CX0 4 T.a_Ask_choice T.d_Ask_choice ["self", "weights", "text"] (sp_Ask_choice K T.c_Ask T.c_Rule) := by
  refine T.F_Ask_choice.ok sc_Ask_choice (fun vs H Q E h => ?_) (fun cdv A outer s H vs Q E hr h => ?_)
  · obtain ⟨_, _, _, _, _, _, _, rfl, _⟩ := h
    rfl
  · obtain ⟨a, ak, v1, v2, ws, text, L, rfl, hA, ok, r1, hwl, hwb, r2, htx, htl, hL, k⟩ := h
    have cA := T.C_Ask
    have n4 := T.n_Ask_tape
    obtain ⟨dx, ap, as_, at_, vr, h0, _, _, hta, _⟩ := id hA
    unfold AskF at h0
    refine ⟨_, (pss_cons (ps_set (i := 3) sc_Ask_choice.nd rfl (Or.inl rfl) (pe_meth (pv 0) T.C_Ask T.m_Ask_let_weights (ok_Ask_let_weights T) (hr.mono (by decide)) T.b_Ask_let_weights .nil pass0 (pa_cons (pv 1) (pa_cons (pv 2) pa_nil))))
      (pss_cons (ps_if (pt_cmpR (k_eqG (K := K) rfl hr.units) (pe_callB (k_sumS (K := K) rfl rfl) (by rfl) T.z_sum (by decide +kernel) (pa_cons (pv 3) pa_nil)) pe_int (nomark _)) (pss_one (ps_ret pe_non)) pss_nil)
      (pss_cons (ps_if (pt_cmpR (k_eqG (K := K) rfl hr.units) (pe_callB (k_lenS (K := K) rfl) (by rfl) T.z_len (by decide +kernel) (pa_cons (k_fld (K := K) rfl (pv 0) rfl) pa_nil)) pe_int (nomark _)) (pss_one (ps_ret (pe_call (ok_greatest T) (hr.mono (by decide)) (by rfl) T.g_greatest T.F_greatest.kp T.b_greatest .nil pass0 (pa_cons (pv 3) pa_nil)))) pss_nil)
      (pss_one (ps_ret (pe_call (ok_by_number T) (hr.mono (by decide)) (by rfl) T.g_by_number T.F_by_number.kp T.b_by_number .nil pass0 (pa_cons (pv 3) (pa_cons (pe_ix (k_ix (K := K) rfl) (k_fld (K := K) rfl (pv 0) rfl) (pe_op op_mod (pe_callB (k_lenS (K := K) rfl) (by rfl) T.z_len (by decide +kernel) (pa_cons (pv 2) pa_nil)) (pe_callB (k_lenS (K := K) rfl) (by rfl) T.z_len (by decide +kernel) (pa_cons (k_fld (K := K) rfl (pv 0) rfl) pa_nil))) (fun _ _ => rfl)) pa_nil)))))))), ?_⟩
    refine go_start (σ' := [some (.ref a), some v1, some v2, none]) rfl ?_
    try dsimp only [cxOf, Cx.nox, Cx.wish]
    walk_at "go"
    refine ⟨a, ak, v1, v2, ws, text, L, rfl, hA, ok, r1, hwl, hwb, r2, htx, htl, hL, fun v' H1 s1 ⟨p, e, hp⟩ => ?_⟩
    subst e
    have hlen := letW_len ak.rule ws text
    have hnn := letW_nonneg (ru := ak.rule) (text := text) (fun x hx => (hwb x hx).1)
    unfold choiceD at k
    generalize letW ak.rule ws text = lw at hp hlen hnn k ⊢
    have h01 := s1 _ _ h0
    have hta1 := s1.sq hta
    obtain ⟨b2, a2, rfl, hx2⟩ := r2
    have hx2 := s1.sq hx2
    walk_at "go"
    refine w_iteD (fun hz => ?_) (fun hz => ?_)
    · walk_at "go"
      rw [if_pos hz] at k
      exact k _ s1
    rw [if_neg hz] at k
    have hsp : 0 < lw.sum := by
      have := sum_nonneg hnn
      omega
    have hlp : 0 < lw.length := by
      cases lw with
      | nil => exact absurd rfl hz
      | cons _ _ => exact Nat.zero_lt_succ _
    walk_at "go"
    refine w_iteD (fun ht => ?_) (fun ht => ?_)
    · rw [if_pos (by omega)] at k
      walk_at "go"
      refine ⟨false, p, lw, rfl, hp, hlp, fun H2 s2 => ?_⟩
      walk_at "go"
      exact k _ (s1.trans s2)
    · rw [if_neg (by omega)] at k
      have hm0 : 0 ≤ ((natI text).length : Int) % (ak.tape.length : Int) := Int.emod_nonneg _ ht
      have hm1 : ((natI text).length : Int) % (ak.tape.length : Int) < ak.tape.length := Int.emod_lt_of_pos _ (by omega)
      walk_at "go"
      refine ⟨false, p, lw, _, rfl, hp, hnn, hsp, fun j H2 hj h1 h2 s2 => ?_⟩
      rw [natI_len] at h1 h2
      rw [numOf_eq hnn hj h1 h2] at k
      walk_at "go"
      exact k _ (s1.trans s2)
/-! ### stops -/
theorem natI_dropV (ls : List Nat) (n : Nat) : ((natI ls).map V.int).drop n = (natI (ls.drop n)).map V.int := by
  unfold natI
  rw [List.map_drop, List.map_drop]
theorem natI_takeV (ls : List Nat) (n : Nat) : ((natI ls).map V.int).take n = (natI (ls.take n)).map V.int := by
  unfold natI
  rw [List.map_take, List.map_take]
theorem natI_snoc (ls : List Nat) (l : Nat) : (natI ls).map V.int ++ [V.int (l : Nat)] = (natI (ls ++ [l])).map V.int := by
  unfold natI
  rw [List.map_append, List.map_append]
  rfl
theorem natI_catV (a b : List Nat) : (natI a).map V.int ++ (natI b).map V.int = (natI (a ++ b)).map V.int := by
  unfold natI
  rw [List.map_append, List.map_append]
def stopLen (text : List Nat) (ss : List (List Nat)) : Nat := ss.foldl (fun m s => if m < s.length ∧ s.length ≤ text.length ∧ text.drop (text.length - s.length) = s then s.length else m) 0
theorem stopLen_take (text : List Nat) (ss : List (List Nat)) {i : Nat} {s : List Nat} (hi : ss[i]? = some s) : stopLen text (ss.take (i + 1)) = if stopLen text (ss.take i) < s.length ∧ s.length ≤ text.length ∧ text.drop (text.length - s.length) = s then s.length else stopLen text (ss.take i) := by
  unfold stopLen
  rw [List.take_add_one, hi, List.foldl_append]
  rfl
theorem stopLen_le (text : List Nat) : ∀ (ss : List (List Nat)), stopLen text ss ≤ text.length := by
  intro ss
  have gen : ∀ (ss : List (List Nat)) (m : Nat), m ≤ text.length → ss.foldl (fun m s => if m < s.length ∧ s.length ≤ text.length ∧ text.drop (text.length - s.length) = s then s.length else m) m ≤ text.length := by
    intro ss
    induction ss with
    | nil => exact fun m h => h
    | cons s r ih =>
      intro m h
      refine ih _ ?_
      show (if _ then _ else _) ≤ _
      split
      · omega
      · exact h
  exact gen ss 0 (Nat.zero_le _)
theorem stopsV_at {ss : List (List Nat)} {i : Nat} {s : List Nat} (h : ss[i]? = some s) : (stopsV ss)[i]? = some ((natI s).map V.int) := by
  unfold stopsV
  rw [List.getElem?_map, h]
  rfl
theorem stopsV_len (ss : List (List Nat)) : (stopsV ss).length = ss.length := by unfold stopsV; rw [List.length_map]

/-! ### what is next -/
theorem w_eqN {K : PySem.W.Frag} {H : Hp} {Q : VK} {l : Nat} {en : Option Nat} (q : Q (.bl (decide (en = some l))) H) : rEqG K (.int (l : Nat)) (vN en) H Q := by
  cases en with
  | none =>
    refine w_eqS rfl ?_
    have e : decide (V.int (l : Nat) = V.non) = decide ((none : Option Nat) = some l) := by
      rw [decide_eq_decide]
      exact ⟨fun h => (nomatch h), fun h => (nomatch h)⟩
    show Q (.bl (decide (V.int (l : Nat) = V.non))) H
    rw [e]
    exact q
  | some m =>
    refine w_eqI ?_
    have e : decide (((l : Nat) : Int) = ((m : Nat) : Int)) = decide (some m = some l) := by
      rw [decide_eq_decide]
      exact ⟨fun h => by rw [show m = l by omega], fun h => by cases h; rfl⟩
    rw [e]
    exact q
noncomputable def nextD (en : Option Nat) (ak : AskD) (ws : List Int) (text : List Nat) : List Nat × Option Str := match choiceD ak.rule ak.tape ws text with
  | none => (text, some "stuck")
  | some l => if en = some l then (text, some "end") else if 0 < stopLen (text ++ [l]) ak.stops then ((text ++ [l]).take ((text ++ [l]).length - stopLen (text ++ [l]) ak.stops), some "stop")
    else (text ++ [l], if (text ++ [l]).length = ak.most then some "most" else none)
def wV : Option Str → V
  | none => .non
  | some s => .str s
def RDue (K : PySem.W.Frag) : Rep (List Nat × Option Str) := fun H v r => ∃ p pt, v = .ref p ∧ Sq false K H p [.ref pt, wV r.2] ∧ Sq false K H pt ((natI r.1).map V.int)
theorem RDue.mono {K : PySem.W.Frag} : RMono (RDue K) := fun _ _ _ _ s ⟨p, pt, e, h1, h2⟩ => ⟨p, pt, e, s.sq h1, s.sq h2⟩

/-! ### the letters of an ask -/


/-! ### the law's own choice -/
def RRuT (K : PySem.W.Frag) : Rep (Option (Int × Steps)) := fun H v ru => match ru with
  | none => v = .non
  | some (s, st) => ∃ p q, v = .ref p ∧ Sq false K H p [.int s, q] ∧ RRows false false K H q (rowsV st)
theorem RRuT.mono {K : PySem.W.Frag} : RMono (RRuT K) := fun H H' v ru s h => by
  cases ru with
  | none => exact h
  | some p =>
    obtain ⟨a, q, e, h1, h2⟩ := h
    exact ⟨a, q, e, s.sq h1, RRows.mono _ _ _ _ s h2⟩
def sp_L_after (K : PySem.W.Frag) : Sp := fun vs H Q _ => ∃ (v : V) (s : Int) (st : Steps) (n L : Nat) (b : Bool) (tp : Addr) (ls : List Int), vs = [v, .ref tp] ∧ RRuT K H v (some (s, st)) ∧ StepsOk st n L ∧ 0 ≤ s ∧ s < n ∧ Sq b K H tp (ls.map V.int) ∧ (∀ l ∈ ls, 0 ≤ l ∧ l < L) ∧ Q (vO (afterR st (some s) ls)) H
theorem ok_L_after (T : Txt K mg) : FnOk P w K mg base CX0 1 T.a_L_after T.d_L_after ["_law_rule_here", "_law_text"] (sp_L_after K) := by
  refine T.F_L_after.ok sc_L_after (fun vs H Q E h => ?_) (fun cdv A outer s H vs Q E hr h => ?_)
  · obtain ⟨_, _, _, _, _, _, _, _, rfl, _⟩ := h
    rfl
  · obtain ⟨v, s0, st, n, L, b, tp, ls, rfl, ⟨rp, qv, rfl, hp0, hR⟩, ok, hs0, hs1, hT, hls, k⟩ := h
    refine ⟨_, (pss_cons (ps_set (i := 2) sc_L_after.nd rfl (Or.inl rfl) (pe_ix (k_ix (K := K) rfl) (pv 0) pe_int (fun _ _ => rfl)))
      (pss_cons (ps_for PassesOwn.never rfl (k_seqS (K := K) rfl (pv 1)) (pg_name (i := 3) sc_L_after.nd rfl (Or.inl rfl))
      (pss_one (ps_if (pt_cmpR op_notNN (pv 2) pe_non (nomark _)) (pss_one (ps_set (i := 2) sc_L_after.nd rfl (Or.inl rfl) (pe_ix (k_ix (K := K) rfl) (pe_ix (k_ix (K := K) rfl) (pe_ix (k_ix (K := K) rfl) (pv 0) pe_int (fun _ _ => rfl)) (pv 2) (fun _ _ => rfl)) (pv 3) (fun _ _ => rfl)))) pss_nil)))
      (pss_one (ps_ret (pv 2))))), ?_⟩
    refine go_start (σ' := [some (.ref rp), some (.ref tp), none, none]) rfl ?_
    try dsimp only [cxOf, Cx.nox, Cx.wish]
    walk_at "go"
    refine w_ix hp0 (atI_nat (j := 0) rfl) ?_
    walk_at "go"
    refine l_seq (b := b) (ls.map V.int) (fun i σ H' => ∃ y4, σ = [some (.ref rp), some (.ref tp), some (vO (afterR st (some s0) (ls.take i))), y4] ∧ H' = H) hT ⟨none, rfl, rfl⟩ (fun i σ H' _ ⟨_, _, e⟩ => by rw [e]; exact hT) ?_ ?_
    · rintro i x σ H' hi hx ⟨y4, rfl, rfl⟩
      obtain ⟨rfl, hi1⟩ := vec_at hx
      have hli := hls _ (nth_mem (ns := ls) (i := ((i : Nat) : Int)) (by omega) (by omega))
      have e := afterR_take (st := st) (s := some s0) hi1
      have hq := afterR_small ok (ls.take i) (some s0) (fun q e => by cases e; exact ⟨hs0, hs1⟩) (fun l h => hls l (List.mem_of_mem_take h))
      generalize afterR st (some s0) (ls.take i) = o at e hq ⊢
      rw [e]
      cases o with
      | none =>
        dsimp only [vO]
        walk_at "go"
        exact ⟨_, rfl, rfl⟩
      | some q =>
        dsimp only [vO]
        have hq := hq q rfl
        obtain ⟨a, vs, p, rr, ea, hv, hat, hp, hat2, _⟩ := steps_look ok hR hq.1 hq.2 hli.1 hli.2
        subst ea
        walk_at "go"
        refine w_ix hp0 (atI_nat (j := 1) rfl) ?_
        walk_at "go"
        refine w_ix hv hat ?_
        walk_at "go"
        refine w_ix hp hat2 ?_
        walk_at "go"
        exact ⟨_, rfl, rfl⟩
    · rintro σ H' ⟨y4, rfl, rfl⟩
      rw [List.length_map, List.take_length]
      walk_at "go"
      exact k
theorem nth_set {ns : List Int} {i j : Nat} {z : Int} (hi : i < ns.length) : nth (ns.set i z) ((j : Nat) : Int) = if j = i then z else nth ns ((j : Nat) : Int) := by
  rw [nth_nat, nth_nat, List.getD_eq_getElem?_getD, List.getD_eq_getElem?_getD, List.getElem?_set]
  by_cases h : i = j
  · subst h
    rw [if_pos rfl, if_pos hi, if_pos rfl]; rfl
  · rw [if_neg h, if_neg (fun e => h e.symm)]
theorem list_nth {as bs : List Int} (hl : as.length = bs.length) (h : ∀ j : Nat, j < as.length → nth as ((j : Nat) : Int) = nth bs ((j : Nat) : Int)) : as = bs := by
  refine List.ext_getElem? fun i => ?_
  by_cases hi : i < as.length
  · have e := h i hi
    rw [nth_nat, nth_nat, List.getD_eq_getElem?_getD, List.getD_eq_getElem?_getD, List.getElem?_eq_getElem hi, List.getElem?_eq_getElem (by omega)] at e
    rw [List.getElem?_eq_getElem hi, List.getElem?_eq_getElem (by omega)]
    exact congrArg some e
  · rw [List.getElem?_eq_none (by omega), List.getElem?_eq_none (by omega)]
def sp_L_counted (K : PySem.W.Frag) : Sp := fun vs H Q _ => ∃ (v1 v2 : V) (tp : Addr) (ws : List Int) (ru : Option (Int × Steps)) (text : List Nat) (b : Bool) (L : Nat), vs = [v1, v2, .ref tp] ∧ RVecX K H v1 ws ∧ ws.length = L ∧ L ≤ 100 ∧ RRuT K H v2 ru ∧ RuleOk L ru ∧ Sq b K H tp ((natI text).map V.int) ∧ (∀ l ∈ text, l < L) ∧
  ∀ D H', Same H H' → H' D = some (.lst ((letW ru ws text).map V.int)) → Q (.ref D) H'
theorem ok_L_counted (T : Txt K mg) : FnOk P w K mg base CX0 2 T.a_L_counted T.d_L_counted ["_law_weights", "_law_rule_here", "_law_text"] (sp_L_counted K) := by
  refine T.F_L_counted.ok sc_L_counted (fun vs H Q E h => ?_) (fun cdv A outer s H vs Q E hr h => ?_)
  · obtain ⟨_, _, _, _, _, _, _, _, rfl, _⟩ := h
    rfl
  · obtain ⟨v1, v2, tp, ws, ru, text, b, L, rfl, ⟨b1, a1, rfl, h1⟩, hwl, hL, hru, hro, hT, htx, k⟩ := h
    refine ⟨_, (pss_cons (ps_set (i := 3) sc_L_counted.nd rfl (Or.inl rfl) (pe_callTy (k_listS (K := K) rfl) (by rfl) T.z_list (by decide +kernel) (pa_cons (pv 0) pa_nil)))
      (pss_cons (ps_if (pt_cmpR op_notNN (pv 1) pe_non (nomark _)) (pss_cons (ps_set (i := 4) sc_L_counted.nd rfl (Or.inl rfl) (pe_call (ok_L_after T) (hr.mono (by decide)) (by rfl) T.g_L_after T.F_L_after.kp T.b_L_after .nil pass0 (pa_cons (pv 1) (pa_cons (pv 2) pa_nil))))
      (pss_one (ps_for PassesOwn.never rfl (pi_range1 rfl T.z_range (pa_cons (pe_callB (k_lenS (K := K) rfl) (by rfl) T.z_len (by decide +kernel) (pa_cons (pv 0) pa_nil)) pa_nil)) (pg_name (i := 5) sc_L_counted.nd rfl (Or.inl rfl))
      (pss_one (ps_if (PW.pt (pw_or (pt_cmpR op_isNN (pv 4) pe_non (nomark _)) (pw_or1 (pt_cmpR op_isNN (pe_ix (k_ix (K := K) rfl) (pe_ix (k_ix (K := K) rfl) (pe_ix (k_ix (K := K) rfl) (pv 1) pe_int (fun _ _ => rfl)) (pv 4) (fun _ _ => rfl)) (pv 5) (fun _ _ => rfl)) pe_non (nomark _))))) (pss_one (ps_asg pe_int (pg_sub (pv 3) (pv 5) set_list))) pss_nil))))) pss_nil)
      (pss_one (ps_ret (pv 3))))), ?_⟩
    refine go_start (σ' := [some (.ref a1), some v2, some (.ref tp), none, none, none]) rfl ?_
    try dsimp only [cxOf, Cx.nox, Cx.wish]
    walk_at "go"
    refine w_listS h1 fun D hD => ?_
    have s1 := Same.new (o := .lst (ws.map V.int)) hD
    have eD : (upd H D (.lst (ws.map V.int))) D = some (.lst (ws.map V.int)) := upd_same
    generalize upd H D (.lst (ws.map V.int)) = H1 at s1 eD ⊢
    cases ru with
    | none =>
      have hru : v2 = .non := hru
      subst hru
      walk_at "go"
      exact k D _ s1 eD
    | some pr =>
      obtain ⟨s0, st⟩ := pr
      obtain ⟨n, okS, hs0, hs1⟩ := hro
      have hru1 := RRuT.mono _ _ _ _ s1 hru
      obtain ⟨rp, qv, rfl, hp0, hR⟩ := id hru1
      have hT1 := s1.sq hT
      have h11 := s1.sq h1
      walk_at "go"
      refine ⟨_, s0, st, n, L, b, tp, natI text, rfl, hru1, okS, hs0, hs1, hT1, natI_lt htx, ?_⟩
      have hq := afterR_small okS (natI text) (some s0) (fun q e => by cases e; exact ⟨hs0, hs1⟩) (natI_lt htx)
      have hln := fun l (h : l < ws.length) => letW_nth (s := s0) (st := st) (ws := ws) (text := text) (l := l) h
      have hll := letW_len (some (s0, st)) ws text
      generalize afterR st (some s0) (natI text) = o at hq hln ⊢
      generalize letW (some (s0, st)) ws text = lw at hln hll k ⊢
      walk_at "go"
      refine l_range (fun i σ H' => ∃ (y5 : Option V) (cs : List Int), σ = [some (.ref a1), some (.ref rp), some (.ref tp), some (.ref D), some (vO o), y5] ∧ cs.length = ws.length ∧ (∀ j : Nat, j < cs.length → nth cs ((j : Nat) : Int) = if j < i then nth lw ((j : Nat) : Int) else nth ws ((j : Nat) : Int)) ∧ Same H H' ∧ H' D = some (.lst (cs.map V.int)))
        (by omega) (by omega) ⟨_, ws, rfl, rfl, fun j _ => by rw [if_neg (Nat.not_lt_zero j)], s1, eD⟩ ?_ ?_
      · rintro i σ H2 hi ⟨y5, cs, rfl, hcl, hcs, s2, e2⟩
        have hi2 : i < cs.length := by omega
        have ecs := hcs i hi2
        rw [if_neg (Nat.lt_irrefl i)] at ecs
        have eln := hln i (by omega)
        have put : ∀ (H3 : Hp), H3 = upd H2 D (.lst ((cs.set ((i : Nat) : Int).toNat 0).map V.int)) → nth lw ((i : Nat) : Int) = 0 → ∃ (y5 : Option V) (cs' : List Int), [some (V.ref a1), some (.ref rp), some (.ref tp), some (.ref D), some (vO o), some (.int (i : Nat))] = [some (.ref a1), some (.ref rp), some (.ref tp), some (.ref D), some (vO o), y5] ∧ cs'.length = ws.length ∧ (∀ j : Nat, j < cs'.length → nth cs' ((j : Nat) : Int) = if j < i + 1 then nth lw ((j : Nat) : Int) else nth ws ((j : Nat) : Int)) ∧ Same H H3 ∧ H3 D = some (.lst (cs'.map V.int)) := fun H3 e3 hz => by
          subst e3
          rw [Int.toNat_natCast]
          refine ⟨_, _, rfl, by rw [List.length_set]; exact hcl, fun j hj => ?_, Same.mut s2 hD, upd_same⟩
          rw [List.length_set] at hj
          rw [nth_set hi2]
          by_cases h : j = i
          · subst h
            rw [if_pos rfl, if_pos (Nat.lt_succ_self _), hz]
          · rw [if_neg h, hcs j hj]
            by_cases h2 : j < i
            · rw [if_pos h2, if_pos (by omega)]
            · rw [if_neg h2, if_neg (by omega)]
        have stay : nth lw ((i : Nat) : Int) = nth ws ((i : Nat) : Int) → ∃ (y5 : Option V) (cs' : List Int), [some (V.ref a1), some (.ref rp), some (.ref tp), some (.ref D), some (vO o), some (.int (i : Nat))] = [some (.ref a1), some (.ref rp), some (.ref tp), some (.ref D), some (vO o), y5] ∧ cs'.length = ws.length ∧ (∀ j : Nat, j < cs'.length → nth cs' ((j : Nat) : Int) = if j < i + 1 then nth lw ((j : Nat) : Int) else nth ws ((j : Nat) : Int)) ∧ Same H H2 ∧ H2 D = some (.lst (cs'.map V.int)) := fun hz => by
          refine ⟨_, cs, rfl, hcl, fun j hj => ?_, s2, e2⟩
          rw [hcs j hj]
          by_cases h : j = i
          · subst h
            rw [if_neg (Nat.lt_irrefl _), if_pos (Nat.lt_succ_self _), hz]
          · by_cases h2 : j < i
            · rw [if_pos h2, if_pos (by omega)]
            · rw [if_neg h2, if_neg (by omega)]
        cases o with
        | none =>
          dsimp only [vO] at put stay ⊢
          have e0 : nth lw ((i : Nat) : Int) = 0 := by rw [eln]; exact Int.mul_zero _
          walk_at "go"
          refine w_setI e2 (by omega) (by omega) ?_
          walk_at "go"
          exact put _ rfl e0
        | some q =>
          dsimp only [vO] at put stay ⊢
          have hq2 := hq q rfl
          have hRm := RRuT.mono _ _ _ _ s2 hru
          obtain ⟨rp', qv', er, hp02, hR2⟩ := id hRm
          cases er
          obtain ⟨a, vs, p, rr, ea, hv, hat, hp, hat2, _⟩ := steps_look okS hR2 (l := ((i : Nat) : Int)) hq2.1 hq2.2 (by omega) (by omega)
          subst ea
          walk_at "go"
          refine w_ix hp02 (atI_nat (j := 1) rfl) ?_
          walk_at "go"
          refine w_ix hv hat ?_
          walk_at "go"
          refine w_ix hp hat2 ?_
          cases hx : stepR st (some q) ((i : Nat) : Int) with
          | none =>
            dsimp only [vO]
            rw [hx] at eln
            have e0 : nth lw ((i : Nat) : Int) = 0 := by rw [eln]; exact Int.mul_zero _
            walk_at "go"
            refine w_setI e2 (by omega) (by omega) ?_
            walk_at "go"
            exact put _ rfl e0
          | some x =>
            dsimp only [vO]
            rw [hx] at eln
            have e0 : nth lw ((i : Nat) : Int) = nth ws ((i : Nat) : Int) := by rw [eln]; exact Int.mul_one _
            walk_at "go"
            exact stay e0
      · rintro σ H2 ⟨y5, cs, rfl, hcl, hcs, s2, e2⟩
        have e : cs = lw := list_nth (by omega) fun j hj => by rw [hcs j hj, if_pos (by omega)]
        subst e
        walk_at "go"
        exact k D _ s2 e2
def sp_L_choice (K : PySem.W.Frag) : Sp := fun vs H Q _ => ∃ (v1 v2 : V) (tap tp : Addr) (ws tape : List Int) (ru : Option (Int × Steps)) (text : List Nat) (b : Bool) (L : Nat), vs = [v1, v2, .ref tap, .ref tp] ∧ RVecX K H v1 ws ∧ ws.length = L ∧ 0 < L ∧ L ≤ 100 ∧ (∀ x ∈ ws, 0 ≤ x ∧ x ≤ 1000) ∧ RRuT K H v2 ru ∧ RuleOk L ru ∧ Sq false K H tap (tape.map V.int) ∧ Sq b K H tp ((natI text).map V.int) ∧ (∀ l ∈ text, l < L) ∧
  ∀ H', Same H H' → Q (vN (choiceD ru tape ws text)) H'
theorem ok_L_choice (T : Txt K mg) : FnOk P w K mg base CX0 3 T.a_L_choice T.d_L_choice ["_law_weights", "_law_rule_here", "_law_tape_here", "_law_text"] (sp_L_choice K) := by
  refine T.F_L_choice.ok sc_L_choice (fun vs H Q E h => ?_) (fun cdv A outer s H vs Q E hr h => ?_)
  · obtain ⟨_, _, _, _, _, _, _, _, _, _, rfl, _⟩ := h
    rfl
  · obtain ⟨v1, v2, tap, tp, ws, tape, ru, text, b, L, rfl, h1, hwl, hL0, hL, hwb, hru, hro, hta, hT, htx, k⟩ := h
    refine ⟨_, (pss_cons (ps_set (i := 4) sc_L_choice.nd rfl (Or.inl rfl) (pe_call (ok_L_counted T) (hr.mono (by decide)) (by rfl) T.g_L_counted T.F_L_counted.kp T.b_L_counted .nil pass0 (pa_cons (pv 0) (pa_cons (pv 1) (pa_cons (pv 3) pa_nil)))))
      (pss_cons (ps_if (pt_cmpR (k_eqG (K := K) rfl hr.units) (pe_callB (k_sumS (K := K) rfl rfl) (by rfl) T.z_sum (by decide +kernel) (pa_cons (pv 4) pa_nil)) pe_int (nomark _)) (pss_one (ps_ret pe_non)) pss_nil)
      (pss_cons (ps_if (pt_cmpR (k_eqG (K := K) rfl hr.units) (pe_callB (k_lenS (K := K) rfl) (by rfl) T.z_len (by decide +kernel) (pa_cons (pv 2) pa_nil)) pe_int (nomark _)) (pss_one (ps_ret (k_bm (K := K) rfl PySem.F.plainAttrs_list PySem.F.slot_list_index PySem.F.type_list_index (k_index (K := K) rfl) (pv 4) (pa_cons (pe_callB (k_max (K := K) rfl rfl) (by rfl) T.z_max (by decide +kernel) (pa_cons (pv 4) pa_nil)) pa_nil)))) pss_nil)
      (pss_cons (ps_set (i := 5) sc_L_choice.nd rfl (Or.inl rfl) (pe_op op_mod (pe_callTy cr_int1 (by rfl) T.z_int (by decide +kernel) (pa_cons (pe_ix (k_ix (K := K) rfl) (pv 2) (pe_op op_mod (pe_callTy cr_int1 (by rfl) T.z_int (by decide +kernel) (pa_cons (pe_callB (k_lenS (K := K) rfl) (by rfl) T.z_len (by decide +kernel) (pa_cons (pv 3) pa_nil)) pa_nil)) (pe_callB (k_lenS (K := K) rfl) (by rfl) T.z_len (by decide +kernel) (pa_cons (pv 2) pa_nil))) (fun _ _ => rfl)) pa_nil)) (pe_callB (k_sumS (K := K) rfl rfl) (by rfl) T.z_sum (by decide +kernel) (pa_cons (pv 4) pa_nil))))
      (pss_cons (ps_set (i := 6) sc_L_choice.nd rfl (Or.inl rfl) pe_int)
      (pss_cons (ps_for PassesOwn.never rfl (pi_range1 rfl T.z_range (pa_cons (pe_callB (k_lenS (K := K) rfl) (by rfl) T.z_len (by decide +kernel) (pa_cons (pv 4) pa_nil)) pa_nil)) (pg_name (i := 7) sc_L_choice.nd rfl (Or.inl rfl))
      (pss_one (ps_if (pt_cmpR op_ge (pv 5) (pe_callB (k_sumS (K := K) rfl rfl) (by rfl) T.z_sum (by decide +kernel) (pa_cons (pe_slice (k_slG (K := K) rfl) (pv 4) po_none (po_some (pe_op (k_addG (K := K) rfl) (pv 7) pe_int))) pa_nil)) (nomark _)) (pss_one (ps_set (i := 6) sc_L_choice.nd rfl (Or.inl rfl) (pe_op (k_addG (K := K) rfl) (pv 7) pe_int))) pss_nil)))
      (pss_one (ps_ret (pv 6))))))))), ?_⟩
    refine go_start (σ' := [some v1, some v2, some (.ref tap), some (.ref tp), none, none, none, none]) rfl ?_
    try dsimp only [cxOf, Cx.nox, Cx.wish]
    walk_at "go"
    refine ⟨v1, v2, tp, ws, ru, text, b, L, rfl, h1, hwl, hL, hru, hro, hT, htx, fun D H1 s1 eD => ?_⟩
    have hlen := letW_len ru ws text
    have hnn := letW_nonneg (ru := ru) (text := text) (fun x hx => (hwb x hx).1)
    unfold choiceD at k
    generalize letW ru ws text = lw at eD hlen hnn k ⊢
    have hta1 := s1.sq hta
    have hT1 := s1.sq hT
    have hlp : 0 < lw.length := by omega
    walk_at "go"
    refine w_iteD (fun hz => ?_) (fun hz => ?_)
    · walk_at "go"
      rw [if_pos hz] at k
      exact k _ s1
    rw [if_neg hz] at k
    have hsp : 0 < lw.sum := by
      have := sum_nonneg hnn
      omega
    walk_at "go"
    refine w_iteD (fun ht => ?_) (fun ht => ?_)
    · rw [if_pos (by omega)] at k
      walk_at "go"
      refine w_maxI (Sq.lst eD) hlp fun m hm1 hm2 => ?_
      have hb := bestUpTo_best lw lw.length
      have hbl := bestUpTo_len hlp (Nat.le_refl _)
      have ebest : nth lw ((bestUpTo lw lw.length : Nat) : Int) = m := by
        obtain ⟨j, hj, e⟩ := List.mem_iff_getElem.mp hm1
        have e2 : nth lw ((j : Nat) : Int) = m := by rw [nth_nat, List.getD_eq_getElem?_getD, List.getElem?_eq_getElem hj]; exact e
        have h1 := hb.1 j hj
        have h2 := hm2 _ (nth_mem (ns := lw) (i := ((bestUpTo lw lw.length : Nat) : Int)) (by omega) (by omega))
        omega
      walk_at "go"
      refine w_indexI (ns := lw) (j := bestUpTo lw lw.length) (Sq.lst eD) hbl ebest (fun m' hm' => ?_) ?_
      · have := hb.2 m' hm'
        omega
      walk_at "go"
      exact k _ s1
    · rw [if_neg (by omega)] at k
      have hm0 : 0 ≤ ((natI text).length : Int) % (tape.length : Int) := Int.emod_nonneg _ ht
      have hm1 : ((natI text).length : Int) % (tape.length : Int) < tape.length := Int.emod_lt_of_pos _ (by omega)
      walk_at "go"
      rw [natI_len]
      generalize nth tape (((text.length : Nat) : Int) % (tape.length : Int)) = nb at k ⊢
      have hr0 : 0 ≤ nb % lw.sum := Int.emod_nonneg _ (by omega)
      have hr1 : nb % lw.sum < lw.sum := Int.emod_lt_of_pos _ hsp
      refine l_range (fun j σ H' => ∃ (l : Nat) (y7 : Option V), σ = [some v1, some v2, some (.ref tap), some (.ref tp), some (.ref D), some (.int (nb % lw.sum)), some (.int (l : Nat)), y7] ∧
          l ≤ j ∧ pre lw l ≤ nb % lw.sum ∧ (∀ m : Nat, l ≤ m → m < j → nb % lw.sum < pre lw (m + 1)) ∧ Same H1 H')
        (by omega) (by omega) ⟨0, _, rfl, Nat.le_refl _, by rw [pre_zero]; exact hr0, fun m _ h => absurd h (Nat.not_lt_zero m), Same.refl _⟩ ?_ ?_
      · rintro j σ H8 hj ⟨l, z7, rfl, hl, hp1, hp2, s8⟩
        have eD8 := s8 _ _ eD
        walk_at "go"
        refine w_slTo (ns := lw) (Sq.lst eD8) (by omega) fun p1 hp1' => ?_
        have s9 := Same.new (o := .lst ((lw.take ((j : Int) + 1).toNat).map V.int)) hp1'
        have e9 : (upd H8 p1 (.lst ((lw.take ((j : Int) + 1).toNat).map V.int))) p1 = some (.lst ((lw.take ((j : Int) + 1).toNat).map V.int)) := upd_same
        generalize upd H8 p1 (.lst ((lw.take ((j : Int) + 1).toNat).map V.int)) = H9 at s9 e9 ⊢
        walk_at "go"
        have etake : (lw.take ((j : Int) + 1).toNat).sum = pre lw (j + 1) := by
          unfold pre
          rw [show ((j : Int) + 1).toNat = j + 1 by omega]
        rw [etake]
        refine w_iteD (fun hc => ?_) (fun hc => ?_)
        · walk_at "go"
          exact ⟨j + 1, _, rfl, Nat.le_refl _, hc, fun m h1 h2 => by omega, s8.trans s9⟩
        · walk_at "go"
          refine ⟨l, _, rfl, by omega, hp1, fun m h1 h2 => ?_, s8.trans s9⟩
          by_cases e : m = j
          · subst e; omega
          · exact hp2 m h1 (by omega)
      rintro σ H8 ⟨l, z7, rfl, hl, hp1, hp2, s8⟩
      have hll : l < lw.length := by
        rcases Nat.lt_or_ge l lw.length with h | h
        · exact h
        · have e : l = lw.length := by omega
          rw [e, pre_all] at hp1
          omega
      have hpl := hp2 l (Nat.le_refl _) (by omega)
      rw [numOf_eq hnn hll hp1 hpl] at k
      walk_at "go"
      exact k _ (s1.trans s8)

/-! ### the law's own stops and ends -/
def endsOf (text s : List Nat) : Bool := decide (s.length ≤ text.length ∧ text.drop (text.length - s.length) = s)

theorem stopLen_alt (text : List Nat) (ss : List (List Nat)) {i : Nat} {s : List Nat} (hi : ss[i]? = some s) : stopLen text (ss.take (i + 1)) = if endsOf text s = true then (if stopLen text (ss.take i) < s.length then s.length else stopLen text (ss.take i)) else stopLen text (ss.take i) := by
  rw [stopLen_take text ss hi]
  unfold endsOf
  by_cases h : s.length ≤ text.length ∧ text.drop (text.length - s.length) = s
  · rw [decide_eq_true h, if_pos rfl]
    by_cases h2 : stopLen text (ss.take i) < s.length
    · rw [if_pos ⟨h2, h⟩, if_pos h2]
    · rw [if_neg (fun z => h2 z.1), if_neg h2]
  · rw [decide_eq_false h, if_neg (fun z => h z.2), if_neg (by decide)]

def nextTx (en : Option Nat) (most : Nat) (stops : List (List Nat)) (text : List Nat) : Option Nat → List Nat × Option Str
  | none => (text, some "stuck")
  | some l => if en = some l then (text, some "end") else if 0 < stopLen (text ++ [l]) stops then ((text ++ [l]).take ((text ++ [l]).length - stopLen (text ++ [l]) stops), some "stop")
    else (text ++ [l], if (text ++ [l]).length = most then some "most" else none)
theorem nextD_of (en : Option Nat) (ak : AskD) (ws : List Int) (text : List Nat) : nextD en ak ws text = nextTx en ak.most ak.stops text (choiceD ak.rule ak.tape ws text) := by
  unfold nextD nextTx
  cases choiceD ak.rule ak.tape ws text <;> rfl

/-! ### rules, stops and tapes drawn -/
def sp_L_rule (K : PySem.W.Frag) : Sp := fun vs H Q _ => ∃ (p : Addr) (ns : List Int) (m : Int) (L : Nat), vs = [.ref p, .int m, .int L] ∧ H p = some (.lst (ns.map V.int)) ∧ (ns.length : Int) ≥ m + 80 ∧ 0 ≤ m ∧ 1 ≤ L ∧ L ≤ 12 ∧
  ∀ ru v' H', RuleOk L ru → Same H H' → RRuT K H' v' ru → Q v' H'
theorem ok_L_rule (T : Txt K mg) : FnOk P w K mg base CX0 1 T.a_L_rule T.d_L_rule ["_law_numbers_here", "_law_k", "_law_letters"] (sp_L_rule K) := by
  refine T.F_L_rule.ok sc_L_rule (fun vs H Q E h => ?_) (fun cdv A outer s H vs Q E hr h => ?_)
  · obtain ⟨_, _, _, _, rfl, _⟩ := h
    rfl
  · obtain ⟨p, ns, m, L, rfl, hL, hnl, hm0, hL0, hL1, k⟩ := h
    refine ⟨_, (pss_cons (ps_if (pt_cmpR op_gt (pe_op op_mod (pe_callTy cr_int1 (by rfl) T.z_int (by decide +kernel) (pa_cons (pe_ix (k_ix (K := K) rfl) (pv 0) (pv 1) (fun _ _ => rfl)) pa_nil)) pe_int) pe_int (nomark _)) (pss_one (ps_ret pe_non)) pss_nil)
      (pss_cons (ps_set (i := 3) sc_L_rule.nd rfl (Or.inl rfl) (pe_op (k_addG (K := K) rfl) pe_int (pe_op op_mod (pe_callTy cr_int1 (by rfl) T.z_int (by decide +kernel) (pa_cons (pe_ix (k_ix (K := K) rfl) (pv 0) (pe_op (k_addG (K := K) rfl) (pv 1) pe_int) (fun _ _ => rfl)) pa_nil)) pe_int)))
      (pss_cons (ps_set (i := 4) sc_L_rule.nd rfl (Or.inl rfl) (pe_lst pa_nil))
      (pss_cons (ps_for PassesOwn.never rfl (pi_range1 rfl T.z_range (pa_cons (pv 3) pa_nil)) (pg_name (i := 5) sc_L_rule.nd rfl (Or.inl rfl))
      (pss_cons (ps_set (i := 6) sc_L_rule.nd rfl (Or.inl rfl) (pe_lst pa_nil))
      (pss_cons (ps_for PassesOwn.never rfl (pi_range1 rfl T.z_range (pa_cons (pv 2) pa_nil)) (pg_name (i := 7) sc_L_rule.nd rfl (Or.inl rfl))
      (pss_cons (ps_set (i := 8) sc_L_rule.nd rfl (Or.inl rfl) (pe_ix (k_ix (K := K) rfl) (pv 0) (pe_op (k_addG (K := K) rfl) (pe_op (k_addG (K := K) rfl) (pe_op (k_addG (K := K) rfl) (pv 1) pe_int) (pe_op op_mul (pv 5) (pv 2))) (pv 7)) (fun _ _ => rfl)))
      (pss_one (ps_expr (k_bm (K := K) rfl PySem.F.plainAttrs_list PySem.F.slot_list_append PySem.F.type_list_append mt_append (pv 6) (pa_cons (pe_ix (k_ix (K := K) rfl) (pe_lst (pa_cons (pe_op op_mod (pe_callTy cr_int1 (by rfl) T.z_int (by decide +kernel) (pa_cons (pv 8) pa_nil)) (pv 3)) (pa_cons (pe_op op_mod (pe_callTy cr_int1 (by rfl) T.z_int (by decide +kernel) (pa_cons (pv 8) pa_nil)) (pv 3)) (pa_cons (pe_op op_mod (pe_callTy cr_int1 (by rfl) T.z_int (by decide +kernel) (pa_cons (pv 8) pa_nil)) (pv 3)) (pa_cons pe_non pa_nil))))) (pe_op op_mod (pe_callTy cr_int1 (by rfl) T.z_int (by decide +kernel) (pa_cons (pe_op op_fdiv (pv 8) pe_int) pa_nil)) pe_int) (fun _ _ => rfl)) pa_nil))))))
      (pss_one (ps_expr (k_bm (K := K) rfl PySem.F.plainAttrs_list PySem.F.slot_list_append PySem.F.type_list_append mt_append (pv 4) (pa_cons (pe_callTy (k_tupS (K := K) rfl) (by rfl) T.z_tuple (by decide +kernel) (pa_cons (pv 6) pa_nil)) pa_nil)))))))
      (pss_one (ps_ret (pe_tup (pa_cons (pe_op op_mod (pe_callTy cr_int1 (by rfl) T.z_int (by decide +kernel) (pa_cons (pe_ix (k_ix (K := K) rfl) (pv 0) (pe_op (k_addG (K := K) rfl) (pv 1) pe_int) (fun _ _ => rfl)) pa_nil)) (pv 3)) (pa_cons (pe_callTy (k_tupS (K := K) rfl) (by rfl) T.z_tuple (by decide +kernel) (pa_cons (pv 4) pa_nil)) pa_nil))))))))), ?_⟩
    refine go_start (σ' := [some (.ref p), some (.int m), some (.int L), none, none, none, none, none, none]) rfl ?_
    try dsimp only [cxOf, Cx.nox, Cx.wish]
    walk_at "go"
    refine w_iteD (fun h0 => ?_) (fun h0 => ?_)
    · walk_at "go"
      exact k none _ _ trivial (Same.refl _) rfl
    walk_at "go"
    obtain ⟨n, hne, hn0, hn1⟩ : ∃ n : Nat, 1 + nth ns (m + 1) % 6 = (n : Int) ∧ 1 ≤ n ∧ n ≤ 6 := ⟨(1 + nth ns (m + 1) % 6).toNat, by omega, by omega, by omega⟩
    rw [hne]
    have hmod : ∀ z : Int, 0 ≤ z % (n : Int) ∧ z % (n : Int) < n := fun z => ⟨Int.emod_nonneg _ (by omega), Int.emod_lt_of_pos _ (by omega)⟩
    refine ⟨Nat.zero_le _, fun D hD => ?_⟩
    have F1 : Filled (RRw false K) H (upd H D (.lst [])) D (rowsV []) := Filled.nil hD
    generalize upd H D (.lst []) = H1 at F1 ⊢
    walk_at "go"
    refine l_range (fun i σ H' => ∃ (y5 y6 y7 y8 : Option V) (st : Steps), σ = [some (.ref p), some (.int m), some (.int L), some (.int n), some (.ref D), y5, y6, y7, y8] ∧ st.length = i ∧ (∀ r ∈ st, r.length = L) ∧ (∀ r ∈ st, ∀ q : Int, some q ∈ r → 0 ≤ q ∧ q < n) ∧ Filled (RRw false K) H H' D (rowsV st))
      (by omega) (by omega) ⟨none, none, none, none, [], rfl, rfl, List.forall_mem_nil _, List.forall_mem_nil _, F1⟩ ?_ ?_
    · rintro i σ H2 hi ⟨y5, y6, y7, y8, st, rfl, hst, hrow, hsm, F2⟩
      walk_at "go"
      refine ⟨Nat.zero_le _, fun R hR => ?_⟩
      have s3 := Same.new (o := .lst []) hR
      have e3 : (upd H2 R (.lst [])) R = some (.lst (([] : List (Option Int)).map vO)) := upd_same
      generalize upd H2 R (.lst []) = H3 at s3 e3 ⊢
      walk_at "go"
      refine l_range (fun j σ H' => ∃ (y7 y8 : Option V) (r : List (Option Int)), σ = [some (.ref p), some (.int m), some (.int L), some (.int n), some (.ref D), some (.int (i : Nat)), some (.ref R), y7, y8] ∧ r.length = j ∧ (∀ q : Int, some q ∈ r → 0 ≤ q ∧ q < n) ∧ Same H2 H' ∧ H' R = some (.lst (r.map vO)))
        (by omega) (by omega) ⟨_, _, [], rfl, rfl, fun q h => absurd h List.not_mem_nil, s3, e3⟩ ?_ ?_
      · rintro j σ H4 hj ⟨y7, y8, r, rfl, hr', hq, s4, e4⟩
        have hL4 := (F2.same.trans s4) _ _ hL
        have hij : ((i : Nat) : Int) * (L : Nat) ≤ 60 := by
          have h1 : i * L ≤ 5 * 12 := Nat.mul_le_mul (by omega) hL1
          have h2 : ((i * L : Nat) : Int) = ((i : Nat) : Int) * (L : Nat) := Int.natCast_mul ..
          omega
        have hij0 : 0 ≤ ((i : Nat) : Int) * (L : Nat) := Int.mul_nonneg (by omega) (by omega)
        walk_at "go"
        have h2 := hmod (nth ns (m + 3 + ((i : Nat) : Int) * (L : Nat) + ((j : Nat) : Int)))
        generalize nth ns (m + 3 + ((i : Nat) : Int) * (L : Nat) + ((j : Nat) : Int)) = sd at h2 ⊢
        refine ⟨by show 4 ≤ sizeLine; decide, fun p5 hp5 => ?_⟩
        have s5 := Same.new (o := .lst [.int (sd % (n : Int)), .int (sd % (n : Int)), .int (sd % (n : Int)), .non]) hp5
        have e5 : (upd H4 p5 (.lst [.int (sd % (n : Int)), .int (sd % (n : Int)), .int (sd % (n : Int)), .non])) p5 = some (.lst [.int (sd % (n : Int)), .int (sd % (n : Int)), .int (sd % (n : Int)), .non]) := upd_same
        generalize upd H4 p5 (.lst [.int (sd % (n : Int)), .int (sd % (n : Int)), .int (sd % (n : Int)), .non]) = H5 at s5 e5 ⊢
        obtain ⟨o, ho, ho2⟩ : ∃ o : Option Int, atI [V.int (sd % (n : Int)), .int (sd % (n : Int)), .int (sd % (n : Int)), .non] (sd / 8 % 4) = some (vO o) ∧ ∀ q, o = some q → 0 ≤ q ∧ q < (n : Int) := by
          have h : sd / 8 % 4 = 0 ∨ sd / 8 % 4 = 1 ∨ sd / 8 % 4 = 2 ∨ sd / 8 % 4 = 3 := by omega
          rcases h with h | h | h | h <;> rw [h]
          · exact ⟨some _, rfl, fun q e => by cases e; exact h2⟩
          · exact ⟨some _, rfl, fun q e => by cases e; exact h2⟩
          · exact ⟨some _, rfl, fun q e => by cases e; exact h2⟩
          · exact ⟨none, rfl, fun q e => by cases e⟩
        walk_at "go"
        refine w_ix (Sq.lst e5) ho ?_
        walk_at "go"
        refine w_append (s5 _ _ e4) (line_of1 (by rw [List.length_map]; omega)) ?_
        walk_at "go"
        refine ⟨_, _, r ++ [o], rfl, by rw [List.length_append, hr']; rfl, fun q hq' => ?_, Same.mut (s4.trans s5) hR, by rw [upd_same, List.map_append]; rfl⟩
        rcases List.mem_append.mp hq' with h | h
        · exact hq q h
        · exact ho2 q (List.mem_singleton.mp h).symm
      · rintro σ H4 ⟨y7, y8, r, rfl, hr', hq, s4, e4⟩
        obtain ⟨ys0, e0, _⟩ := (F2.mono RRw.mono s4).at_
        walk_at "go"
        refine w_tupL (Sq.lst e4) fun t5 ht5 => ?_
        have s5 := Same.new (o := .tup (r.map vO)) ht5
        have e5 : (upd H4 t5 (.tup (r.map vO))) t5 = some (.tup (r.map vO)) := upd_same
        generalize upd H4 t5 (.tup (r.map vO)) = H5 at s5 e5 ⊢
        have F5 := F2.mono RRw.mono (s4.trans s5)
        obtain ⟨ysx, ex, _, _⟩ := id F5.at_
        obtain ⟨ys6, e6, hl6, F6⟩ := F5.push (d := r.map vO) (y := .ref t5) (RRw.tup _ _ _ _ (NTup.lst ex) ⟨t5, rfl, Sq.tup e5⟩)
        walk_at "go"
        refine w_append e6 (line_of1 (by rw [hl6, rowsV_len]; omega)) ?_
        walk_at "go"
        refine ⟨_, _, _, _, st ++ [r], rfl, by rw [List.length_append, hst]; rfl, fun x hx => ?_, fun x hx q hq' => ?_, ?_⟩
        · rcases List.mem_append.mp hx with h | h
          · exact hrow x h
          · rw [List.mem_singleton.mp h]; omega
        · rcases List.mem_append.mp hx with h | h
          · exact hsm x h q hq'
          · rw [List.mem_singleton.mp h] at hq'; exact hq q hq'
        · have e : rowsV (st ++ [r]) = rowsV st ++ [r.map vO] := by unfold rowsV; rw [List.map_append]; rfl
          rw [e]
          exact F6
    · rintro σ H2 ⟨y5, y6, y7, y8, st, rfl, hst, hrow, hsm, F2⟩
      have hL2 := F2.same _ _ hL
      obtain ⟨_, ys, ey, hys, hyl, hyr⟩ := F2.seq RRw.mono (K := K)
      cases ey
      walk_at "go"
      refine w_tupL hys fun t3 ht3 => ?_
      have s3 := Same.new (o := .tup ys) ht3
      have e3 : RRows false false K (upd H2 t3 (.tup ys)) (.ref t3) (rowsV st) := ⟨t3, ys, rfl, Sq.tup upd_same, hyl, fun i y d a b => RRw.mono _ _ _ _ s3 (hyr i y d a b)⟩
      generalize upd H2 t3 (.tup ys) = H3 at s3 e3 ⊢
      walk_at "go"
      refine ⟨by show 2 ≤ sizeLine; decide, fun q4 hq4 => ?_⟩
      have s4 := Same.new (o := .tup [.int (nth ns (m + 2) % (n : Int)), .ref t3]) hq4
      exact k (some (nth ns (m + 2) % (n : Int), st)) _ _ ⟨n, ⟨by omega, hrow, hsm, hn0, by omega, hL0, by omega⟩, (hmod _).1, (hmod _).2⟩ ((F2.same.trans s3).trans s4) ⟨q4, .ref t3, rfl, Sq.tup upd_same, RRows.mono _ _ _ _ s4 e3⟩

/-! ### stops, tapes, asks drawn -/
def sp_L_stops (K : PySem.W.Frag) : Sp := fun vs H Q _ => ∃ (p : Addr) (ns : List Int) (m : Int) (L : Nat), vs = [.ref p, .int m, .int L] ∧ H p = some (.lst (ns.map V.int)) ∧ (ns.length : Int) ≥ m + 30 ∧ 0 ≤ m ∧ 1 ≤ L ∧ L ≤ 12 ∧
  ∀ ss v' H', ss.length ≤ 4 → (∀ s ∈ ss, 1 ≤ s.length ∧ s.length ≤ 10 ∧ ∀ l ∈ s, l < L) → Same H H' → RRows false false K H' v' (stopsV ss) → Q v' H'
theorem ok_L_stops (T : Txt K mg) : FnOk P w K mg base CX0 1 T.a_L_stops T.d_L_stops ["_law_numbers_here", "_law_k", "_law_letters"] (sp_L_stops K) := by
  refine T.F_L_stops.ok sc_L_stops (fun vs H Q E h => ?_) (fun cdv A outer s H vs Q E hr h => ?_)
  · obtain ⟨_, _, _, _, rfl, _⟩ := h
    rfl
  · obtain ⟨p, ns, m, L, rfl, hL, hnl, hm0, hL0, hL1, k⟩ := h
    have hmod : ∀ z : Int, 0 ≤ z % (L : Int) ∧ z % (L : Int) < L := fun z => ⟨Int.emod_nonneg _ (by omega), Int.emod_lt_of_pos _ (by omega)⟩
    refine ⟨_, (pss_cons (ps_set (i := 3) sc_L_stops.nd rfl (Or.inl rfl) (pe_lst pa_nil))
      (pss_cons (ps_for PassesOwn.never rfl (pi_range1 rfl T.z_range (pa_cons (pe_ix (k_ix (K := K) rfl) (pe_lst (pa_cons pe_int (pa_cons pe_int (pa_cons pe_int (pa_cons pe_int (pa_cons pe_int (pa_cons pe_int pa_nil))))))) (pe_op op_mod (pe_callTy cr_int1 (by rfl) T.z_int (by decide +kernel) (pa_cons (pe_ix (k_ix (K := K) rfl) (pv 0) (pv 1) (fun _ _ => rfl)) pa_nil)) pe_int) (fun _ _ => rfl)) pa_nil)) (pg_name (i := 4) sc_L_stops.nd rfl (Or.inl rfl))
      (pss_cons (ps_set (i := 5) sc_L_stops.nd rfl (Or.inl rfl) (pe_lst pa_nil))
      (pss_cons (ps_for PassesOwn.never rfl (pi_range1 rfl T.z_range (pa_cons (pe_op (k_addG (K := K) rfl) pe_int (pe_op op_mod (pe_callTy cr_int1 (by rfl) T.z_int (by decide +kernel) (pa_cons (pe_ix (k_ix (K := K) rfl) (pv 0) (pe_op (k_addG (K := K) rfl) (pe_op (k_addG (K := K) rfl) (pv 1) pe_int) (pe_op op_mul pe_int (pv 4))) (fun _ _ => rfl)) pa_nil)) pe_int)) pa_nil)) (pg_name (i := 6) sc_L_stops.nd rfl (Or.inl rfl))
      (pss_one (ps_expr (k_bm (K := K) rfl PySem.F.plainAttrs_list PySem.F.slot_list_append PySem.F.type_list_append mt_append (pv 5) (pa_cons (pe_op op_mod (pe_callTy cr_int1 (by rfl) T.z_int (by decide +kernel) (pa_cons (pe_ix (k_ix (K := K) rfl) (pv 0) (pe_op (k_addG (K := K) rfl) (pe_op (k_addG (K := K) rfl) (pe_op (k_addG (K := K) rfl) (pv 1) pe_int) (pe_op op_mul pe_int (pv 4))) (pv 6)) (fun _ _ => rfl)) pa_nil)) (pv 2)) pa_nil)))))
      (pss_one (ps_expr (k_bm (K := K) rfl PySem.F.plainAttrs_list PySem.F.slot_list_append PySem.F.type_list_append mt_append (pv 3) (pa_cons (pe_callTy (k_tupS (K := K) rfl) (by rfl) T.z_tuple (by decide +kernel) (pa_cons (pv 5) pa_nil)) pa_nil)))))))
      (pss_one (ps_ret (pe_callTy (k_tupS (K := K) rfl) (by rfl) T.z_tuple (by decide +kernel) (pa_cons (pv 3) pa_nil)))))), ?_⟩
    refine go_start (σ' := [some (.ref p), some (.int m), some (.int L), none, none, none, none]) rfl ?_
    try dsimp only [cxOf, Cx.nox, Cx.wish]
    walk_at "go"
    refine ⟨Nat.zero_le _, fun D hD => ?_⟩
    have F1 : Filled (RRw false K) H (upd H D (.lst [])) D (stopsV []) := Filled.nil hD
    generalize upd H D (.lst []) = H1 at F1 ⊢
    have hL1' := F1.same _ _ hL
    walk_at "go"
    refine ⟨by show 6 ≤ sizeLine; decide, fun p2 hp2 => ?_⟩
    have s2 := Same.new (o := .lst [.int 0, .int 0, .int 1, .int 2, .int 3, .int 4]) hp2
    have e2 : (upd H1 p2 (.lst [.int 0, .int 0, .int 1, .int 2, .int 3, .int 4])) p2 = some (.lst (([0, 0, 1, 2, 3, 4] : List Int).map V.int)) := upd_same
    have F2 := F1.mono RRw.mono s2
    generalize upd H1 p2 (.lst [.int 0, .int 0, .int 1, .int 2, .int 3, .int 4]) = H2 at s2 e2 F2 ⊢
    have hL2 := F2.same _ _ hL
    walk_at "go"
    have hc : 0 ≤ nth [0, 0, 1, 2, 3, 4] (nth ns m % 6) ∧ nth [0, 0, 1, 2, 3, 4] (nth ns m % 6) ≤ 4 := by
      have hm := nth_mem (ns := [0, 0, 1, 2, 3, 4]) (i := nth ns m % 6) (by omega) (by show _ < (6 : Int); omega)
      simp only [List.mem_cons, List.not_mem_nil, or_false] at hm
      omega
    generalize nth [0, 0, 1, 2, 3, 4] (nth ns m % 6) = c at hc ⊢
    clear F1 e2
    refine l_range (fun i σ H' => ∃ (y4 y5 y6 : Option V) (ss : List (List Nat)), σ = [some (.ref p), some (.int m), some (.int L), some (.ref D), y4, y5, y6] ∧ ss.length = i ∧ (∀ s ∈ ss, 1 ≤ s.length ∧ s.length ≤ 10 ∧ ∀ l ∈ s, l < L) ∧ Filled (RRw false K) H H' D (stopsV ss))
      (by omega) (by omega) ⟨none, none, none, [], rfl, rfl, List.forall_mem_nil _, F2⟩ ?_ ?_
    · rintro i σ H3 hi ⟨y4, y5, y6, ss, rfl, hss, hok, F3⟩
      walk_at "go"
      refine ⟨Nat.zero_le _, fun R hR => ?_⟩
      have s4 := Same.new (o := .lst []) hR
      have e4 : (upd H3 R (.lst [])) R = some (.lst ((natI []).map V.int)) := upd_same
      generalize upd H3 R (.lst []) = H4 at s4 e4 ⊢
      have hL4 := (F3.same.trans s4) _ _ hL
      walk_at "go"
      refine l_range (fun j σ H' => ∃ (y6 : Option V) (r : List Nat), σ = [some (.ref p), some (.int m), some (.int L), some (.ref D), some (.int (i : Nat)), some (.ref R), y6] ∧ r.length = j ∧ (∀ l ∈ r, l < L) ∧ Same H3 H' ∧ H' R = some (.lst ((natI r).map V.int)))
        (by omega) (by omega) ⟨_, [], rfl, rfl, List.forall_mem_nil _, s4, e4⟩ ?_ ?_
      · rintro j σ H5 hj ⟨y6, r, rfl, hr', hrl, s5, e5⟩
        have hL5 := (F3.same.trans s5) _ _ hL
        walk_at "go"
        have h2 := hmod (nth ns (m + 2 + 5 * ((i : Nat) : Int) + ((j : Nat) : Int)))
        generalize nth ns (m + 2 + 5 * ((i : Nat) : Int) + ((j : Nat) : Int)) % (L : Int) = z at h2 ⊢
        obtain ⟨l, rfl⟩ : ∃ l : Nat, z = (l : Int) := ⟨z.toNat, by omega⟩
        refine w_append e5 (line_of1 (by rw [List.length_map, natI_len]; omega)) ?_
        walk_at "go"
        refine ⟨_, r ++ [l], rfl, by rw [List.length_append, hr']; rfl, fun l' hl' => ?_, Same.mut s5 hR, by rw [upd_same, natI_snoc]⟩
        rcases List.mem_append.mp hl' with h | h
        · exact hrl l' h
        · rw [List.mem_singleton.mp h]; omega
      · rintro σ H5 ⟨y6, r, rfl, hr', hrl, s5, e5⟩
        obtain ⟨ys0, e0, _⟩ := (F3.mono RRw.mono s5).at_
        walk_at "go"
        refine w_tupL (Sq.lst e5) fun t6 ht6 => ?_
        have s6 := Same.new (o := .tup ((natI r).map V.int)) ht6
        have e6 : (upd H5 t6 (.tup ((natI r).map V.int))) t6 = some (.tup ((natI r).map V.int)) := upd_same
        generalize upd H5 t6 (.tup ((natI r).map V.int)) = H6 at s6 e6 ⊢
        have F6 := F3.mono RRw.mono (s5.trans s6)
        obtain ⟨ysx, ex, _, _⟩ := id F6.at_
        obtain ⟨ys7, e7, hl7, F7⟩ := F6.push (d := (natI r).map V.int) (y := .ref t6) (RRw.tup _ _ _ _ (NTup.lst ex) ⟨t6, rfl, Sq.tup e6⟩)
        walk_at "go"
        refine w_append e7 (line_of1 (by rw [hl7, stopsV_len]; omega)) ?_
        walk_at "go"
        refine ⟨_, _, _, ss ++ [r], rfl, by rw [List.length_append, hss]; rfl, fun x hx => ?_, ?_⟩
        · rcases List.mem_append.mp hx with h | h
          · exact hok x h
          · rw [List.mem_singleton.mp h]
            exact ⟨by omega, by omega, hrl⟩
        · have e : stopsV (ss ++ [r]) = stopsV ss ++ [(natI r).map V.int] := by unfold stopsV; rw [List.map_append]; rfl
          rw [e]
          exact F7
    · rintro σ H3 ⟨y4, y5, y6, ss, rfl, hss, hok, F3⟩
      obtain ⟨_, ys, ey, hys, hyl, hyr⟩ := F3.seq RRw.mono (K := K)
      cases ey
      walk_at "go"
      refine w_tupL hys fun t3 ht3 => ?_
      have s3 := Same.new (o := .tup ys) ht3
      walk_at "go"
      exact k ss _ _ (by omega) hok (F3.same.trans s3) ⟨t3, ys, rfl, Sq.tup upd_same, hyl, fun i y d a b => RRw.mono _ _ _ _ s3 (hyr i y d a b)⟩
def sp_L_tape (K : PySem.W.Frag) : Sp := fun vs H Q _ => ∃ (p : Addr) (ns : List Int) (m : Int), vs = [.ref p, .int m] ∧ H p = some (.lst (ns.map V.int)) ∧ (ns.length : Int) ≥ m + 40 ∧ 0 ≤ m ∧ (∀ x ∈ ns, (0 : Int) ≤ x) ∧
  ∀ tape v' H', tape.length ≤ 12 → (∀ t ∈ tape, (0 : Int) ≤ t ∧ ((∀ x ∈ ns, x < 1000) → t < 1000000)) → Same H H' → RVec false K H' v' tape → Q v' H'
theorem ok_L_tape (T : Txt K mg) : FnOk P w K mg base CX0 1 T.a_L_tape T.d_L_tape ["_law_numbers_here", "_law_k"] (sp_L_tape K) := by
  refine T.F_L_tape.ok sc_L_tape (fun vs H Q E h => ?_) (fun cdv A outer s H vs Q E hr h => ?_)
  · obtain ⟨_, _, _, rfl, _⟩ := h
    rfl
  · obtain ⟨p, ns, m, rfl, hL, hnl, hm0, hnn, k⟩ := h
    have nn : ∀ i : Int, 0 ≤ i → i < ns.length → 0 ≤ nth ns i := fun i h0 h1 => hnn _ (nth_mem h0 h1)
    refine ⟨_, (pss_cons (ps_set (i := 2) sc_L_tape.nd rfl (Or.inl rfl) (pe_lst pa_nil))
      (pss_cons (ps_for PassesOwn.never rfl (pi_range1 rfl T.z_range (pa_cons (pe_ix (k_ix (K := K) rfl) (pe_lst (pa_cons pe_int (pa_cons pe_int (pa_cons pe_int (pa_cons pe_int (pa_cons (pe_op op_mod (pe_callTy cr_int1 (by rfl) T.z_int (by decide +kernel) (pa_cons (pe_ix (k_ix (K := K) rfl) (pv 0) (pv 1) (fun _ _ => rfl)) pa_nil)) pe_int) pa_nil)))))) (pe_op op_mod (pe_callTy cr_int1 (by rfl) T.z_int (by decide +kernel) (pa_cons (pe_op op_fdiv (pe_ix (k_ix (K := K) rfl) (pv 0) (pv 1) (fun _ _ => rfl)) pe_int) pa_nil)) pe_int) (fun _ _ => rfl)) pa_nil)) (pg_name (i := 3) sc_L_tape.nd rfl (Or.inl rfl))
      (pss_one (ps_expr (k_bm (K := K) rfl PySem.F.plainAttrs_list PySem.F.slot_list_append PySem.F.type_list_append mt_append (pv 2) (pa_cons (pe_op (k_addG (K := K) rfl) (pe_op op_mul (pe_ix (k_ix (K := K) rfl) (pv 0) (pe_op (k_addG (K := K) rfl) (pe_op (k_addG (K := K) rfl) (pv 1) pe_int) (pe_op op_mul pe_int (pv 3))) (fun _ _ => rfl)) pe_int) (pe_ix (k_ix (K := K) rfl) (pv 0) (pe_op (k_addG (K := K) rfl) (pe_op (k_addG (K := K) rfl) (pv 1) pe_int) (pe_op op_mul pe_int (pv 3))) (fun _ _ => rfl))) pa_nil)))))
      (pss_one (ps_ret (pe_callTy (k_tupS (K := K) rfl) (by rfl) T.z_tuple (by decide +kernel) (pa_cons (pv 2) pa_nil)))))), ?_⟩
    refine go_start (σ' := [some (.ref p), some (.int m), none, none]) rfl ?_
    try dsimp only [cxOf, Cx.nox, Cx.wish]
    walk_at "go"
    refine ⟨Nat.zero_le _, fun D hD => ?_⟩
    have s1 := Same.new (o := .lst []) hD
    have e1 : (upd H D (.lst [])) D = some (.lst (([] : List Int).map V.int)) := upd_same
    generalize upd H D (.lst []) = H1 at s1 e1 ⊢
    have hL1 := s1 _ _ hL
    walk_at "go"
    refine ⟨by show 5 ≤ sizeLine; decide, fun p2 hp2 => ?_⟩
    have s2 := Same.new (o := .lst [.int 0, .int 0, .int 1, .int 2, .int (nth ns m % 13)]) hp2
    have e2 : (upd H1 p2 (.lst [.int 0, .int 0, .int 1, .int 2, .int (nth ns m % 13)])) p2 = some (.lst (([0, 0, 1, 2, nth ns m % 13] : List Int).map V.int)) := upd_same
    have e12 := s2 _ _ e1
    generalize upd H1 p2 (.lst [.int 0, .int 0, .int 1, .int 2, .int (nth ns m % 13)]) = H2 at s2 e2 e12 ⊢
    have s02 := s1.trans s2
    have hL2 := s02 _ _ hL
    walk_at "go"
    have hc : 0 ≤ nth [0, 0, 1, 2, nth ns m % 13] (nth ns m / 13 % 5) ∧ nth [0, 0, 1, 2, nth ns m % 13] (nth ns m / 13 % 5) ≤ 12 := by
      have hm := nth_mem (ns := [0, 0, 1, 2, nth ns m % 13]) (i := nth ns m / 13 % 5) (by omega) (by show _ < (5 : Int); omega)
      simp only [List.mem_cons, List.not_mem_nil, or_false] at hm
      omega
    generalize nth [0, 0, 1, 2, nth ns m % 13] (nth ns m / 13 % 5) = c at hc ⊢
    clear e2
    refine l_range (fun i σ H' => ∃ (y3 : Option V) (tape : List Int), σ = [some (.ref p), some (.int m), some (.ref D), y3] ∧ tape.length = i ∧ (∀ t ∈ tape, (0 : Int) ≤ t ∧ ((∀ x ∈ ns, x < 1000) → t < 1000000)) ∧ Same H H' ∧ H' D = some (.lst (tape.map V.int)))
      (by omega) (by omega) ⟨none, [], rfl, rfl, List.forall_mem_nil _, s02, e12⟩ ?_ ?_
    · rintro i σ H3 hi ⟨y3, tape, rfl, htl, htn, s3, e3⟩
      have hL3 := s3 _ _ hL
      have n1 := nn (m + 1 + 2 * ((i : Nat) : Int)) (by omega) (by omega)
      have n2 := nn (m + 2 + 2 * ((i : Nat) : Int)) (by omega) (by omega)
      walk_at "go"
      refine w_append e3 (line_of1 (by rw [List.length_map]; omega)) ?_
      walk_at "go"
      refine ⟨_, tape ++ [_], rfl, by rw [List.length_append, htl]; rfl, fun t ht => ?_, Same.mut s3 hD, by rw [upd_same, List.map_append]; rfl⟩
      rcases List.mem_append.mp ht with h | h
      · exact htn t h
      · rw [List.mem_singleton.mp h]
        exact ⟨by omega, fun hb => by
          have u1 := hb _ (nth_mem (ns := ns) (i := m + 1 + 2 * ((i : Nat) : Int)) (by omega) (by omega))
          have u2 := hb _ (nth_mem (ns := ns) (i := m + 2 + 2 * ((i : Nat) : Int)) (by omega) (by omega))
          omega⟩
    · rintro σ H3 ⟨y3, tape, rfl, htl, htn, s3, e3⟩
      walk_at "go"
      refine w_tupL (Sq.lst e3) fun t4 ht4 => ?_
      walk_at "go"
      exact k tape _ _ (by omega) htn (s3.trans (Same.new ht4)) ⟨t4, rfl, Sq.tup upd_same⟩
def RDrawn (K : PySem.W.Frag) (CA CR : Addr) : Rep AskD := fun H v ak => ∃ p q a pp sp tp rv, v = .ref p ∧ Sq false K H p [.ref q, .ref a] ∧ Sq false K H q [.ref pp, .int ak.most, .ref sp, .ref tp, rv] ∧ Sq false K H pp ((natI ak.prompt).map V.int) ∧ RRows false false K H (.ref sp) (stopsV ak.stops) ∧ Sq false K H tp (ak.tape.map V.int) ∧ RRuT K H rv ak.rule ∧ IsAsk K CA CR H a ak
theorem RDrawn.mono {K : PySem.W.Frag} {CA CR : Addr} : RMono (RDrawn K CA CR) := fun _ _ _ _ s ⟨p, q, a, pp, sp, tp, rv, e, h1, h2, h3, h4, h5, h6, h7⟩ => ⟨p, q, a, pp, sp, tp, rv, e, s.sq h1, s.sq h2, s.sq h3, RRows.mono _ _ _ _ s h4, s.sq h5, RRuT.mono _ _ _ _ s h6, ask_same s h7⟩
theorem w_makeK {C : Addr} {n m : Nat} {sp : Sp} {gV : List V → List V → List V} {E : XK} {t tk : TA} {σ : L2.St} {H : Hp} {Q : VK} (q : t σ H fun vs H1 => tk σ H1 fun zs H2 => vs.length = n ∧ zs.length = m ∧ ∀ x dx, H2 x = none → H2 dx = none → dx ≠ x →
  sp (gV (.ref x :: vs) zs) (upd (upd H2 dx (.own x)) x (.ins C dx [])) (fun v H3 => v = .non ∧ Q (.ref x) H3) E) : tMakeK C n m sp gV E t tk σ H Q := q


/-! ### letters drawn -/
def letP (ns : List Int) (L o : Int) (n : Nat) : List Nat := (List.range n).map fun k => (nth ns (o + ((k : Nat) : Int)) % L).toNat
theorem letP_len (ns : List Int) (L o : Int) (n : Nat) : (letP ns L o n).length = n := by unfold letP; rw [List.length_map, List.length_range]
theorem letP_lt {ns : List Int} {L : Nat} {o : Int} {n : Nat} (hL : 0 < L) : ∀ l ∈ letP ns L o n, l < L := fun l hl => by
  obtain ⟨x, _, e⟩ := List.mem_map.mp hl
  have h1 : 0 ≤ nth ns (o + ((x : Nat) : Int)) % (L : Int) := Int.emod_nonneg _ (by omega)
  have h2 : nth ns (o + ((x : Nat) : Int)) % (L : Int) < L := Int.emod_lt_of_pos _ (by omega)
  omega
theorem letP_nth {ns : List Int} {L : Nat} {o : Int} {n i : Nat} (hL : 0 < L) (hi : i < n) : nth (natI (letP ns L o n)) ((i : Nat) : Int) = nth ns (o + ((i : Nat) : Int)) % (L : Int) := by
  have h1 : 0 ≤ nth ns (o + ((i : Nat) : Int)) % (L : Int) := Int.emod_nonneg _ (by omega)
  unfold natI letP
  rw [List.map_map, nth_nat, List.getD_eq_getElem?_getD, List.getElem?_map, List.getElem?_eq_getElem (by rw [List.length_range]; exact hi), List.getElem_range]
  exact Int.toNat_of_nonneg h1
/-- letters drawn by any rule -/
def letF (f : Int → Int) (L : Int) (n : Nat) : List Nat := (List.range n).map fun k => (f ((k : Nat) : Int) % L).toNat
theorem letF_len (f : Int → Int) (L : Int) (n : Nat) : (letF f L n).length = n := by unfold letF; rw [List.length_map, List.length_range]
theorem letF_lt {f : Int → Int} {L n : Nat} (hL : 0 < L) : ∀ l ∈ letF f L n, l < L := fun l hl => by
  obtain ⟨x, _, e⟩ := List.mem_map.mp hl
  have h1 : 0 ≤ f ((x : Nat) : Int) % (L : Int) := Int.emod_nonneg _ (by omega)
  have h2 : f ((x : Nat) : Int) % (L : Int) < L := Int.emod_lt_of_pos _ (by omega)
  omega
theorem letF_nth {f : Int → Int} {L n i : Nat} (hL : 0 < L) (hi : i < n) : nth (natI (letF f L n)) ((i : Nat) : Int) = f ((i : Nat) : Int) % (L : Int) := by
  have h1 : 0 ≤ f ((i : Nat) : Int) % (L : Int) := Int.emod_nonneg _ (by omega)
  unfold natI letF
  rw [List.map_map, nth_nat, List.getD_eq_getElem?_getD, List.getElem?_map, List.getElem?_eq_getElem (by rw [List.length_range]; exact hi), List.getElem_range]
  exact Int.toNat_of_nonneg h1

/-! ### an ask refused, made with parts left out -/
def sp_AskB (K : PySem.W.Frag) (CE : Addr) : Sp := fun vs H _ E => ∃ (a : Addr) (v1 v v3 v4 vr : V) (d : PyData), vs = [.ref a, v1, v, v3, v4, vr] ∧ ROdd K H v d ∧ inB 1 30 d = false ∧
  ∀ dd, H dd = none → E (.ref CE) (some dd) (upd H dd (.xd [("number", v)]))
theorem okB_Ask___init__ (T : Txt K mg) : FnOk P w K mg base (L2N.CX P w) 3 T.a_Ask___init__ T.d_Ask___init__ ["self", "prompt", "most", "stops", "tape", "rule"] (sp_AskB K T.c_InvalidNumber) := by
  refine T.F_Ask___init__.okN sc_Ask___init__ (fun vs H Q E h => ?_) (fun cdv A outer s H vs Q E hr h => ?_)
  · obtain ⟨_, _, _, _, _, _, _, rfl, _⟩ := h
    rfl
  · obtain ⟨a, v1, v, v3, v4, vr, d, rfl, r, e1, k⟩ := h
    refine ⟨_, (pss_cons (ps_if (pt_not (k_tru (K := K) rfl (pe_call (ok_is_between T) (hr.mono (by decide)) (by rfl) T.g_is_between T.F_is_between.kp T.b_is_between .nil pass0 (pa_cons (pv 2) (pa_cons pe_int (pa_cons (pe_glob (v := .int 30) (by rfl) T.gk_MOST_LETTERS ⟨_, rfl⟩) pa_nil)))) (by intro _; rfl))) (pss_one (L2N.ps_raise rfl (L2N.takes_of rfl rfl rfl rfl) (pmk_oexN T.ox_InvalidNumber T.ic_InvalidNumber T.ti_InvalidNumber (ok_InvalidNumber___init__ T) (hr.mono (by decide)) T.b_InvalidNumber___init__ pass0 rfl T.gc_InvalidNumber (pa_cons (pv 2) pa_nil)))) pss_nil)
      (PSs.nox (pss_cons (k_sfld (K := K) rfl (pv 0) (pe_callTy (k_tupS (K := K) rfl) (by rfl) T.z_tuple (by decide +kernel) (pa_cons (pv 1) pa_nil)) rfl)
      (pss_cons (k_sfld (K := K) rfl (pv 0) (pv 2) rfl)
      (pss_cons (k_sfld (K := K) rfl (pv 0) (pe_callTy (k_tupS (K := K) rfl) (by rfl) T.z_tuple (by decide +kernel) (pa_cons (pe_lc (own := [("stop", 6)]) (g := gName 6) (tt := tYes) rfl sc_Ask___init__.nd (k_seqS (K := K) rfl (pv 3)) (blkOk_by (own := [("stop", 6)]) (by kernel_rfl)) (fun _ _ _ _ _ => (pg_name (i := 6) sc_Ask___init__.nd rfl (by first | exact Or.inl rfl | exact Or.inr rfl))) (fun _ _ _ _ _ => pts_nil) (fun _ _ _ _ _ => (pe_callTy (k_tupS (K := K) rfl) (by rfl) T.z_tuple (by decide +kernel) (pa_cons (pv 6) pa_nil)))) pa_nil)) rfl)
      (pss_cons (k_sfld (K := K) rfl (pv 0) (pe_callTy (k_tupS (K := K) rfl) (by rfl) T.z_tuple (by decide +kernel) (pa_cons (pv 4) pa_nil)) rfl)
      (pss_one (k_sfld (K := K) rfl (pv 0) (pv 5) rfl)))))))), ?_⟩
    refine go_start (σ' := [some (.ref a), some v1, some v, some v3, some v4, some vr, none]) rfl ?_
    try dsimp only [cxOf, Cx.nox, Cx.wish]
    walk_at "go"
    refine ⟨v, 1, 30, inB 1 30 d, rfl, r.between 1 30, ?_⟩
    rw [e1]
    walk_at "go"
    refine w_mkErrV T.ox_InvalidNumber T.nf_InvalidNumber rfl fun d hd => ?_
    exact k d hd
theorem okN_Ask___init__ (T : Txt K mg) : FnOk P w K mg base (L2N.CX P w) 3 T.a_Ask___init__ T.d_Ask___init__ ["self", "prompt", "most", "stops", "tape", "rule"] (fun vs H Q E => sp_Ask___init__ K T.c_Ask T.c_Rule vs H Q E ∨ sp_AskB K T.c_InvalidNumber vs H Q E) :=
  ((ok_Ask___init__ T).cx0).or (okB_Ask___init__ T)
theorem ask_new {K : PySem.W.Frag} {CA CR : Addr} {H H5 : Hp} {a dx : Addr} {C : Addr} {ak : AskD} {vr : V} (ha : H a = none) (hdx : H dx = none) (hne : dx ≠ a) (hr : IsRuleV K CR H vr ak.rule) : vr ≠ .ref a := fun e => by
  obtain ⟨pr, mo, st, tp, ru⟩ := ak
  cases ru with
  | none => have h : vr = .non := hr; rw [h] at e; cases e
  | some p =>
    obtain ⟨r, er, dxr, _, h1, _⟩ := hr
    rw [er] at e
    cases e
    rw [h1] at ha; cases ha
theorem rvec_nil {K : PySem.W.Frag} {H : Hp} {p : Addr} (h : SqT K H p []) : RVecX K H (.ref p) [] := ⟨false, p, rfl, h⟩
theorem rrows_nil {K : PySem.W.Frag} {H : Hp} {p : Addr} (h : SqT K H p []) : RRows false false K H (.ref p) (stopsV []) := ⟨p, [], rfl, h, rfl, fun i y d e => by simp at e⟩
def sp_L_made (K : PySem.W.Frag) (CA CR : Addr) : Sp := fun vs H Q _ => ∃ (ak : AskD) (v1 v3 v4 vr : V) (b1 b2 sh : Bool) (L : Nat), vs = [v1, .int ak.most, v3, v4, vr, .bl sh] ∧ AskOk ak L ∧
  RVecX K H v1 (natI ak.prompt) ∧ RRows b1 b2 K H v3 (stopsV ak.stops) ∧ RVecX K H v4 ak.tape ∧ IsRuleV K CR H vr ak.rule ∧ ∀ a H', Same H H' → IsAsk K CA CR H' a ak → Q (.ref a) H'
theorem made_at {K : PySem.W.Frag} {CA CR : Addr} {H : Hp} {ak : AskD} {v1 v3 v4 vr : V} {b1 b2 : Bool} {L : Nat} {Q : VK} {E : XK} (ok : AskOk ak L)
    (h1 : RVecX K H v1 (natI ak.prompt)) (h3 : RRows b1 b2 K H v3 (stopsV ak.stops)) (h4 : RVecX K H v4 ak.tape) (hr : IsRuleV K CR H vr ak.rule) (k : ∀ a H', Same H H' → IsAsk K CA CR H' a ak → Q (.ref a) H')
    {a dx : Addr} (ha : H a = none) (hdx : H dx = none) (hne : dx ≠ a) : sp_Ask___init__ K CA CR [.ref a, v1, .int ak.most, v3, v4, vr] (upd (upd H dx (.own a)) a (.ins CA dx [])) (fun v H2 => v = .non ∧ Q (.ref a) H2) E := by
  have sB : Same H (upd (upd H dx (.own a)) a (.ins CA dx [])) := (Same.new hdx).trans (Same.new (by rw [upd_ne (Ne.symm hne)]; exact ha))
  obtain ⟨c1, a1, rfl, q1⟩ := h1
  obtain ⟨c4, a4, rfl, q4⟩ := h4
  exact ⟨a, dx, ak, _, v3, _, vr, b1, b2, L, rfl, upd_same, ok, ⟨c1, a1, rfl, sB.sq q1⟩, RRows.mono _ _ _ _ sB h3, ⟨c4, a4, rfl, sB.sq q4⟩, ruleV_same sB hr, ask_new (CA := CA) (C := CA) (H5 := H) ha hdx hne hr, fun H' f hA =>
    ⟨rfl, k a H' (fun c o hc => f _ _ (ne_of_none hc ha) (sB _ _ hc)) hA⟩⟩
theorem ok_L_made (T : Txt K mg) : FnOk P w K mg base CX0 5 T.a_L_made T.d_L_made ["_law_prompt", "_law_most", "_law_stops_here", "_law_tape_here", "_law_rule_here", "_law_short"] (sp_L_made K T.c_Ask T.c_Rule) := by
  refine T.F_L_made.ok sc_L_made (fun vs H Q E h => ?_) (fun cdv A outer s H vs Q E hr h => ?_)
  · obtain ⟨_, _, _, _, _, _, _, _, _, rfl, _⟩ := h
    rfl
  · obtain ⟨ak, v1, v3, v4, vr, b1, b2, sh, L, rfl, ok, h1, h3, h4, hru, k⟩ := h
    have cA := T.C_Ask
    obtain ⟨a3, xs, rfl, hx, hxl, hxr⟩ := id h3
    obtain ⟨c4, a4, rfl, q4⟩ := id h4
    rw [stopsV_len] at hxl
    refine ⟨_, (pss_cons (ps_if (PW.pt (pw_and (k_tru (K := K) rfl (pv 5) (by intro _; rfl)) (pw_and (pt_cmpR (k_eqG (K := K) rfl hr.units) (pe_callB (k_lenS (K := K) rfl) (by rfl) T.z_len (by decide +kernel) (pa_cons (pv 2) pa_nil)) pe_int (nomark _)) (pw_and (pt_cmpR (k_eqG (K := K) rfl hr.units) (pe_callB (k_lenS (K := K) rfl) (by rfl) T.z_len (by decide +kernel) (pa_cons (pv 3) pa_nil)) pe_int (nomark _)) (pw_and1 (pt_cmpR op_isNN (pv 4) pe_non (nomark _))))))) (pss_one (ps_ret (pe_make T.M_Ask (ok_Ask___init__ T) (hr.mono (by decide)) rfl T.gc_Ask T.bk_Ask___init__ (show Vals [V.ref T.w_Ask___init___stops, V.ref T.w_Ask___init___tape, V.non] _ from (.cons rfl (.cons rfl (.cons rfl .nil)))) pass0 (pa_cons (pv 0) (pa_cons (pv 1) pa_nil))))) pss_nil)
      (pss_cons (ps_if (PW.pt (pw_and (k_tru (K := K) rfl (pv 5) (by intro _; rfl)) (pw_and (pt_cmpR (k_eqG (K := K) rfl hr.units) (pe_callB (k_lenS (K := K) rfl) (by rfl) T.z_len (by decide +kernel) (pa_cons (pv 3) pa_nil)) pe_int (nomark _)) (pw_and1 (pt_cmpR op_isNN (pv 4) pe_non (nomark _)))))) (pss_one (ps_ret (pe_makeK T.M_Ask (ok_Ask___init__ T) (hr.mono (by decide)) rfl T.gc_Ask T.kb_Ask___init___stops pass0 (pa_cons (pv 0) (pa_cons (pv 1) pa_nil)) (pk_cons (pv 2) pk_nil)))) pss_nil)
      (pss_cons (ps_if (PW.pt (pw_and (k_tru (K := K) rfl (pv 5) (by intro _; rfl)) (pw_and (pt_cmpR (k_eqG (K := K) rfl hr.units) (pe_callB (k_lenS (K := K) rfl) (by rfl) T.z_len (by decide +kernel) (pa_cons (pv 2) pa_nil)) pe_int (nomark _)) (pw_and1 (pt_cmpR op_isNN (pv 4) pe_non (nomark _)))))) (pss_one (ps_ret (pe_makeK T.M_Ask (ok_Ask___init__ T) (hr.mono (by decide)) rfl T.gc_Ask T.kb_Ask___init___tape pass0 (pa_cons (pv 0) (pa_cons (pv 1) pa_nil)) (pk_cons (pv 3) pk_nil)))) pss_nil)
      (pss_one (ps_ret (pe_makeK T.M_Ask (ok_Ask___init__ T) (hr.mono (by decide)) rfl T.gc_Ask T.kb_Ask___init___stops_tape_rule pass0 (pa_cons (pv 0) (pa_cons (pv 1) pa_nil)) (pk_cons (pv 2) (pk_cons (pv 3) (pk_cons (pv 4) pk_nil))))))))), ?_⟩
    refine go_start (σ' := [some v1, some (.int ak.most), some (.ref a3), some (.ref a4), some vr, some (.bl sh)]) rfl ?_
    try dsimp only [cxOf, Cx.nox, Cx.wish]
    have full : ∀ {E : XK} {a dx : Addr}, H a = none → H dx = none → dx ≠ a → sp_Ask___init__ K T.c_Ask T.c_Rule [.ref a, v1, .int ak.most, .ref a3, .ref a4, vr] (upd (upd H dx (.own a)) a (.ins T.c_Ask dx [])) (fun v H2 => v = .non ∧ Q (.ref a) H2) E := fun ha hdx hne => made_at ok h1 h3 h4 hru k ha hdx hne
    have eS : (xs.length : Int) = 0 → RRows false false K H (.ref T.w_Ask___init___stops) (stopsV ak.stops) := fun e => by
      rw [List.length_eq_zero_iff.mp (show ak.stops.length = 0 by omega)]
      exact rrows_nil (T.wt_Ask___init___stops H)
    have eT : (ak.tape.length : Int) = 0 → RVecX K H (.ref T.w_Ask___init___tape) ak.tape := fun e => by
      rw [List.length_eq_zero_iff.mp (show ak.tape.length = 0 by omega)]
      exact rvec_nil (T.wt_Ask___init___tape H)
    have hrc : (vr = .non ∧ ak.rule = none) ∨ ∃ r, vr = .ref r := by
      obtain ⟨pr, mo, st, tp, ru⟩ := ak
      cases ru with
      | none => exact .inl ⟨hru, rfl⟩
      | some p =>
        obtain ⟨r, er, _⟩ := hru
        exact .inr ⟨r, er⟩
    cases sh with
    | false =>
      walk_at "go"
      refine w_makeK ?_
      walk_at "go"
      exact ⟨rfl, rfl, fun a dx ha hdx hne => full ha hdx hne⟩
    | true =>
      walk_at "go"
      by_cases hs : (xs.length : Int) = 0
      · refine w_iteD (fun _ => ?_) (fun z => absurd hs z)
        walk_at "go"
        by_cases ht : (ak.tape.length : Int) = 0
        · refine w_iteD (fun _ => ?_) (fun z => absurd ht z)
          rcases hrc with ⟨rfl, er⟩ | ⟨r, rfl⟩
          · walk_at "go"
            exact fun a dx ha hdx hne => made_at ok h1 (eS hs) (eT ht) hru k ha hdx hne
          · walk_at "go"
            refine w_iteD (fun _ => ?_) (fun z => absurd ht z)
            walk_at "go"
            refine w_iteD (fun _ => ?_) (fun z => absurd hs z)
            walk_at "go"
            refine w_makeK ?_
            walk_at "go"
            exact ⟨rfl, rfl, fun a dx ha hdx hne => full ha hdx hne⟩
        · refine w_iteD (fun z => absurd z ht) (fun _ => ?_)
          walk_at "go"
          refine w_iteD (fun z => absurd z ht) (fun _ => ?_)
          walk_at "go"
          refine w_iteD (fun _ => ?_) (fun z => absurd hs z)
          rcases hrc with ⟨rfl, er⟩ | ⟨r, rfl⟩
          · walk_at "go"
            refine w_makeK ?_
            walk_at "go"
            exact ⟨rfl, rfl, fun a dx ha hdx hne => made_at ok h1 (eS hs) h4 hru k ha hdx hne⟩
          · walk_at "go"
            refine w_makeK ?_
            walk_at "go"
            exact ⟨rfl, rfl, fun a dx ha hdx hne => full ha hdx hne⟩
      · refine w_iteD (fun z => absurd z hs) (fun _ => ?_)
        walk_at "go"
        by_cases ht : (ak.tape.length : Int) = 0
        · refine w_iteD (fun _ => ?_) (fun z => absurd ht z)
          rcases hrc with ⟨rfl, er⟩ | ⟨r, rfl⟩
          · walk_at "go"
            refine w_makeK ?_
            walk_at "go"
            exact ⟨rfl, rfl, fun a dx ha hdx hne => made_at ok h1 h3 (eT ht) hru k ha hdx hne⟩
          · walk_at "go"
            refine w_iteD (fun z => absurd z hs) (fun _ => ?_)
            walk_at "go"
            refine w_makeK ?_
            walk_at "go"
            exact ⟨rfl, rfl, fun a dx ha hdx hne => full ha hdx hne⟩
        · refine w_iteD (fun z => absurd z ht) (fun _ => ?_)
          walk_at "go"
          refine w_iteD (fun z => absurd z hs) (fun _ => ?_)
          walk_at "go"
          refine w_makeK ?_
          walk_at "go"
          exact ⟨rfl, rfl, fun a dx ha hdx hne => full ha hdx hne⟩
/-! ### a most that is none -/
theorem strOk_of (s : String) : PyData.strOk (Str.ofString s) = true := by
  unfold PyData.strOk
  rw [Str.ofString_eq_toList, Array.all_eq_true_iff_forall_mem]
  intro c hc
  obtain ⟨ch, _, e⟩ := List.mem_map.mp (List.mem_toArray.mp hc)
  have h : Nat.isValidChar ch.toNat := ch.valid
  refine decide_eq_true ?_
  rcases h with h | h <;> omega
theorem shaped_l1 {s : Str} (h : PyData.strOk s = true) : SeqAt.shaped (.list [.str s]) = true := by
  unfold SeqAt.shaped
  simp only [PyData.canLay0, PyData.canLayAll0, PyData.depth, PyData.depthAll, h]
  rfl
theorem eqv_l1 {s : Str} (h : PyData.strOk s = true) : PyData.eqv (.list [.str s]) (.list [.str s]) = true := eqv_refl _ (by simp only [PyData.canLay0, PyData.canLayAll0, h]; rfl)
def sp_L_refuses (K : PySem.W.Frag) : Sp := fun vs H Q _ => ∃ (v1 v : V) (d : PyData), vs = [v1, v] ∧ ROdd K H v d ∧ inB 1 30 d = false ∧ PyData.strOk d.shown = true ∧ ∀ H', Same H H' → Q (.bl true) H'
theorem ok_L_refuses (T : Txt K mg) : FnG P w K mg base CX0 5 T.a_L_refuses T.d_L_refuses ["_law_prompt", "_law_most"] (sp_L_refuses K) := by
  refine T.F_L_refuses.okG sc_L_refuses (fun vs H Q E h => ?_) (fun cdv A outer s H vs Q E hA hr h => ?_)
  · obtain ⟨_, _, _, rfl, _⟩ := h
    rfl
  · obtain ⟨v1, v, dt, rfl, hv, hbad, hso, q⟩ := h
    refine ⟨_, (pss_cons (ps_set (i := 2) sc_L_refuses.nd rfl (Or.inl rfl) (pe_lst pa_nil))
      (pss_cons (L2N.ps_try_as (i := 3) rfl rfl sc_L_refuses.nd rfl rfl ⟨rfl, by decide, .inl T.gc_ServeError⟩ takesN0 (fun W pn xe tk _ => (pss_one (ps_expr (pe_makeT T.M_Ask (okN_Ask___init__ T) (hr.mono (by decide)) rfl T.gc_Ask T.bk_Ask___init__ (show Vals [V.ref T.w_Ask___init___stops, V.ref T.w_Ask___init___tape, V.non] _ from (.cons rfl (.cons rfl (.cons rfl .nil)))) (fun σ => L2N.passAt tk σ) (pa_cons (pv 0) (pa_cons (pv 1) pa_nil))))))
      (fun a oe cls d pn hz hf => (pss_cons (ps_if (k_tru (K := K) rfl (pe_callB (k_isX (K := K) rfl List.mem_cons_self hz.zc hf) (by rfl) T.z_isinstance (by decide +kernel) (pa_cons (pv 3) (pa_cons (pe_glob (v := .ref T.c_InvalidNumber) (by rfl) T.gc_InvalidNumber rfl) pa_nil))) (by intro _; rfl)) (pss_one (ps_expr (k_bm (K := K) rfl PySem.F.plainAttrs_list PySem.F.slot_list_append PySem.F.type_list_append mt_append (pv 2) (pa_cons (pe_callB (k_reprG (K := K) rfl hA hr.units) (by rfl) T.z_repr (by decide +kernel) (pa_cons (pe_xfP T.xf_InvalidNumber T.nf_InvalidNumber List.mem_cons_self hz.zc hf (pv 3) rfl) pa_nil)) pa_nil)))) pss_nil)
      (pss_cons (ps_if (k_tru (K := K) rfl (pe_callB (k_isX (K := K) rfl List.mem_cons_self hz.zc hf) (by rfl) T.z_isinstance (by decide +kernel) (pa_cons (pv 3) (pa_cons (pe_tup (pa_cons (pe_glob (v := .ref T.c_InvalidLetter) (by rfl) T.gc_InvalidLetter rfl) (pa_cons (pe_glob (v := .ref T.c_NoHouse) (by rfl) T.gc_NoHouse rfl) (pa_cons (pe_glob (v := .ref T.c_NoRequest) (by rfl) T.gc_NoRequest rfl) (pa_cons (pe_glob (v := .ref T.c_NoRoom) (by rfl) T.gc_NoRoom rfl) (pa_cons (pe_glob (v := .ref T.c_NotAlone) (by rfl) T.gc_NotAlone rfl) (pa_cons (pe_glob (v := .ref T.c_NotHeld) (by rfl) T.gc_NotHeld rfl) (pa_cons (pe_glob (v := .ref T.c_TooLarge) (by rfl) T.gc_TooLarge rfl) pa_nil)))))))) pa_nil))) (by intro _; rfl)) (pss_one (ps_expr (k_bm (K := K) rfl PySem.F.plainAttrs_list PySem.F.slot_list_append PySem.F.type_list_append mt_append (pv 2) (pa_cons pe_str pa_nil)))) pss_nil)
      (pss_one (ps_if (pt_not (k_tru (K := K) rfl (pe_callB (k_isX (K := K) rfl List.mem_cons_self hz.zc hf) (by rfl) T.z_isinstance (by decide +kernel) (pa_cons (pv 3) (pa_cons (pe_bltn (v := .ty "ValueError") (by rfl) T.z_ValueError (by decide +kernel) rfl) pa_nil))) (by intro _; rfl))) (pss_one (ps_expr (k_bm (K := K) rfl PySem.F.plainAttrs_list PySem.F.slot_list_append PySem.F.type_list_append mt_append (pv 2) (pa_cons pe_str pa_nil)))) pss_nil))))))
      (pss_one (ps_ret (pe_cmpR (k_eqG (K := K) rfl hr.units) (pv 2) (pe_lst (pa_cons (pe_callB (k_reprG (K := K) rfl hA hr.units) (by rfl) T.z_repr (by decide +kernel) (pa_cons (pv 1) pa_nil)) pa_nil)) (nomark _)))))), ?_⟩
    refine go_start (σ' := [some v1, some v, none, none]) rfl ?_
    try dsimp only [cxOf, Cx.nox, Cx.wish]
    walk_at "go"
    refine ⟨Nat.zero_le _, fun D hD => ?_⟩
    have s1 := Same.new (o := .lst []) hD
    have e1 : (upd H D (.lst [])) D = some (.lst []) := upd_same
    generalize upd H D (.lst []) = H1 at s1 e1 ⊢
    walk_at "go"
    refine w_makeT ?_
    walk_at "go"
    intro x dx hx hdx hne
    have s2 : Same H1 (upd (upd H1 dx (.own x)) x (.ins T.c_Ask dx [])) := (Same.new hdx).trans (Same.new (by rw [upd_ne (Ne.symm hne)]; exact hx))
    refine .inr ⟨x, v1, v, _, _, _, dt, rfl, ROdd.mono _ _ _ _ (s1.trans s2) hv, hbad, fun d hd => ?_⟩
    have s3 := s2.trans (Same.new (o := .xd [("number", v)]) hd)
    have e3 := s3 _ _ e1
    have ed : (upd (upd (upd H1 dx (.own x)) x (.ins T.c_Ask dx [])) d (.xd [("number", v)])) d = some (.xd [("number", v)]) := upd_same
    generalize upd (upd (upd H1 dx (.own x)) x (.ins T.c_Ask dx [])) d (.xd [("number", v)]) = H3 at s3 e3 ed ⊢
    have s13 := s1.trans s3
    have hnD : D ≠ d := fun e => by rw [e, ed] at e3; cases e3
    clear s1 s2 s3 e1 hd
    have hs := hv.1
    refine ⟨true, exm_sub T.er_ServeError T.sub_InvalidNumber_ServeError, fun _ ea hea => ?_, fun h => nomatch h⟩
    walk_at "go"
    refine w_isX ed T.ec_InvalidNumber T.er_InvalidNumber T.sub_InvalidNumber_InvalidNumber T.sub_InvalidNumber_InvalidNumber ?_
    walk_at "go"
    refine w_xfV rfl ed rfl ?_
    refine ⟨v, dt, rfl, (ROdd.mono _ _ _ _ s13 hv).dp, hs.ok, hs.nod, hs.deep, hs.size, ?_⟩
    walk_at "go"
    refine w_append e3 (by decide) ?_
    have ed4 : (upd H3 D (.lst ([] ++ [V.str dt.shown]))) d = some (.xd [("number", v)]) := by rw [upd_ne (Ne.symm hnD)]; exact ed
    have e4 : (upd H3 D (.lst ([] ++ [V.str dt.shown]))) D = some (.lst [V.str dt.shown]) := upd_same
    have s4 : Same H (upd H3 D (.lst ([] ++ [V.str dt.shown]))) := s13.mut hD
    generalize upd H3 D (.lst ([] ++ [V.str dt.shown])) = H4 at ed4 e4 s4 ⊢
    walk_at "go"
    refine ⟨by show 7 ≤ sizeLine; decide, fun tp htp => ?_⟩
    have s5 := Same.new (o := .tup [.ref T.c_InvalidLetter, .ref T.c_NoHouse, .ref T.c_NoRequest, .ref T.c_NoRoom, .ref T.c_NotAlone, .ref T.c_NotHeld, .ref T.c_TooLarge]) htp
    walk_at "go"
    refine w_isXT (s5 _ _ ed4) T.ec_InvalidNumber upd_same (.cons (.own _) (.cons (.own _) (.cons (.own _) (.cons (.own _) (.cons (.own _) (.cons (.own _) (.cons (.own _) .nil))))))) (kit_cons (kit_sub T.er_InvalidLetter T.sub_InvalidNumber_InvalidNumber T.sub_InvalidNumber_InvalidLetter) (kit_cons (kit_sub T.er_NoHouse T.sub_InvalidNumber_InvalidNumber T.sub_InvalidNumber_NoHouse) (kit_cons (kit_sub T.er_NoRequest T.sub_InvalidNumber_InvalidNumber T.sub_InvalidNumber_NoRequest) (kit_cons (kit_sub T.er_NoRoom T.sub_InvalidNumber_InvalidNumber T.sub_InvalidNumber_NoRoom) (kit_cons (kit_sub T.er_NotAlone T.sub_InvalidNumber_InvalidNumber T.sub_InvalidNumber_NotAlone) (kit_cons (kit_sub T.er_NotHeld T.sub_InvalidNumber_InvalidNumber T.sub_InvalidNumber_NotHeld) (kit_cons (kit_sub T.er_TooLarge T.sub_InvalidNumber_InvalidNumber T.sub_InvalidNumber_TooLarge) kit_nil))))))) ?_
    generalize upd H4 tp (.tup [.ref T.c_InvalidLetter, .ref T.c_NoHouse, .ref T.c_NoRequest, .ref T.c_NoRoom, .ref T.c_NotAlone, .ref T.c_NotHeld, .ref T.c_TooLarge]) = H5 at s5 ⊢
    walk_at "go"
    refine w_isXV (s5 _ _ ed4) T.ec_InvalidNumber T.sv_InvalidNumber ?_
    walk_at "go"
    refine ⟨v, dt, rfl, (ROdd.mono _ _ _ _ (s4.trans s5) hv).dp, hs.ok, hs.nod, hs.deep, hs.size, ?_⟩
    walk_at "go"
    refine ⟨by show 1 ≤ sizeLine; decide, fun p6 hp6 => ?_⟩
    have s6 := Same.new (o := .lst [.str dt.shown]) hp6
    walk_at "go"
    refine w_eqD (d := .list [.str dt.shown]) (e := .list [.str dt.shown]) (.lst (Sq.lst (s6 _ _ (s5 _ _ e4))) (.cons (.str _) .nil)) (.lst (Sq.lst upd_same) (.cons (.str _) .nil)) (shaped_l1 hso) (shaped_l1 hso) ?_
    rw [eqv_l1 hso]
    exact q _ ((s4.trans s5).trans s6)

/-! ### choices -/
theorem Sm.vN {K : PySem.W.Frag} {H : Hp} {n : Nat} (o : Option Nat) : Sm K H n (vN o) (vN o) := by
  cases o with
  | none =>
    cases n
    · exact ⟨rfl, .inl rfl⟩
    · exact .inl ⟨rfl, .inl rfl⟩
  | some l => exact Sm.int
def sp_L_chosen (K : PySem.W.Frag) (CA CR : Addr) : Sp := fun vs H Q _ => ∃ (a p tap : Addr) (ak : AskD) (ns : List Int) (L : Nat) (vR : V), vs = [.ref a, .ref p, .int L, vR, .ref tap] ∧ IsAsk K CA CR H a ak ∧ AskOk ak L ∧ H p = some (.lst (ns.map V.int)) ∧ ns.length = 270 ∧ (∀ x ∈ ns, 0 ≤ x ∧ x < 1000) ∧ 1 ≤ L ∧ L ≤ 12 ∧
  RRuT K H vR ak.rule ∧ Sq false K H tap (ak.tape.map V.int) ∧ ∀ H', Same H H' → Q (.bl true) H'
theorem ok_L_chosen (T : Txt K mg) : FnOk P w K mg base CX0 5 T.a_L_chosen T.d_L_chosen ["_law_ask", "_law_numbers_here", "_law_letters", "_law_rule_here", "_law_tape_here"] (sp_L_chosen K T.c_Ask T.c_Rule) := by
  refine T.F_L_chosen.ok sc_L_chosen (fun vs H Q E h => ?_) (fun cdv A outer s H vs Q E hr h => ?_)
  · obtain ⟨_, _, _, _, _, _, _, rfl, _⟩ := h
    rfl
  · obtain ⟨a, p, tap, ak, ns, L, vR, rfl, hA, ok, hL, hnl, hnb, hL0, hL1, hR, hT, k⟩ := h
    have hmod : ∀ z : Int, 0 ≤ z % (L : Int) ∧ z % (L : Int) < L := fun z => ⟨Int.emod_nonneg _ (by omega), Int.emod_lt_of_pos _ (by omega)⟩
    have nn : ∀ i : Int, 0 ≤ i → i < 270 → 0 ≤ nth ns i ∧ nth ns i < 1000 := fun i h0 h1 => hnb _ (nth_mem h0 (by omega))
    have hmn : ∀ z : Int, 0 ≤ z % (ns.length : Int) ∧ z % (ns.length : Int) < ns.length := fun z => ⟨Int.emod_nonneg _ (by omega), Int.emod_lt_of_pos _ (by omega)⟩
    have cA := T.C_Ask
    refine ⟨_, (pss_cons (ps_for PassesOwn.never rfl (pi_range1 rfl T.z_range (pa_cons pe_int pa_nil)) (pg_name (i := 5) sc_L_chosen.nd rfl (Or.inr rfl))
      (pss_cons (ps_set (i := 6) sc_L_chosen.nd rfl (Or.inl rfl) (pe_lst pa_nil))
      (pss_cons (ps_for PassesOwn.never rfl (pi_range1 rfl T.z_range (pa_cons (pv 2) pa_nil)) (pg_name (i := 7) sc_L_chosen.nd rfl (Or.inl rfl))
      (pss_cons (ps_set (i := 8) sc_L_chosen.nd rfl (Or.inl rfl) (pe_ix (k_ix (K := K) rfl) (pv 1) (pe_op op_mod (pe_callTy cr_int1 (by rfl) T.z_int (by decide +kernel) (pa_cons (pe_op (k_addG (K := K) rfl) (pe_op (k_addG (K := K) rfl) pe_int (pe_op op_mul pe_int (pv 7))) (pv 5)) pa_nil)) (pe_callB (k_lenS (K := K) rfl) (by rfl) T.z_len (by decide +kernel) (pa_cons (pv 1) pa_nil))) (fun _ _ => rfl)))
      (pss_one (ps_expr (k_bm (K := K) rfl PySem.F.plainAttrs_list PySem.F.slot_list_append PySem.F.type_list_append mt_append (pv 6) (pa_cons (pe_ix (k_ix (K := K) rfl) (pe_lst (pa_cons pe_int (pa_cons pe_int (pa_cons (pe_op op_mod (pe_callTy cr_int1 (by rfl) T.z_int (by decide +kernel) (pa_cons (pe_op op_fdiv (pv 8) pe_int) pa_nil)) pe_int) (pa_cons (pe_op op_mod (pe_callTy cr_int1 (by rfl) T.z_int (by decide +kernel) (pa_cons (pe_op op_fdiv (pv 8) pe_int) pa_nil)) pe_int) pa_nil))))) (pe_op op_mod (pe_callTy cr_int1 (by rfl) T.z_int (by decide +kernel) (pa_cons (pv 8) pa_nil)) pe_int) (fun _ _ => rfl)) pa_nil))))))
      (Evl.pss_cut (ps_if (pt_cmpR (k_eqG (K := K) rfl hr.units) (pe_callB (k_sumS (K := K) rfl rfl) (by rfl) T.z_sum (by decide +kernel) (pa_cons (pv 6) pa_nil)) pe_int (nomark _)) (pss_one (ps_asg pe_int (pg_sub (pv 6) (pe_op op_mod (pe_callTy cr_int1 (by rfl) T.z_int (by decide +kernel) (pa_cons (pe_ix (k_ix (K := K) rfl) (pv 1) pe_int (fun _ _ => rfl)) pa_nil)) (pv 2)) set_list))) pss_nil)
      (pss_cons (ps_set (i := 9) sc_L_chosen.nd rfl (Or.inl rfl) (pe_op op_mod (pe_callTy cr_int1 (by rfl) T.z_int (by decide +kernel) (pa_cons (pe_ix (k_ix (K := K) rfl) (pv 1) (pe_op (k_addG (K := K) rfl) pe_int (pv 5)) (fun _ _ => rfl)) pa_nil)) pe_int))
      (pss_cons (ps_setLc (i := 10) (own := [("_law_k", 7)]) (g := gName 7) (tt := tYes) rfl sc_L_chosen.nd rfl rfl (sw_true rfl rfl rfl (by decide +kernel)) (pi_range1 rfl T.z_range (pa_cons (pv 9) pa_nil)) (blkOk_by (own := [("_law_k", 7)]) (by kernel_rfl)) (fun _ _ _ _ _ => (pg_name (i := 7) sc_L_chosen.nd rfl (by first | exact Or.inl rfl | exact Or.inr rfl))) (fun _ _ _ _ _ => pts_nil) (fun _ _ _ _ _ => (pe_op op_mod (pe_callTy cr_int1 (by rfl) T.z_int (by decide +kernel) (pa_cons (pe_ix (k_ix (K := K) rfl) (pv 1) (pe_op op_mod (pe_callTy cr_int1 (by rfl) T.z_int (by decide +kernel) (pa_cons (pe_op (k_addG (K := K) rfl) (pe_op (k_addG (K := K) rfl) pe_int (pv 5)) (pe_op op_mul pe_int (pv 7))) pa_nil)) (pe_callB (k_lenS (K := K) rfl) (by rfl) T.z_len (by decide +kernel) (pa_cons (pv 1) pa_nil))) (fun _ _ => rfl)) pa_nil)) (pv 2))))
      (pss_cons (ps_set (i := 11) sc_L_chosen.nd rfl (Or.inl rfl) (pe_call (ok_L_choice T) (hr.mono (by decide)) (by rfl) T.g_L_choice T.F_L_choice.kp T.b_L_choice .nil pass0 (pa_cons (pv 6) (pa_cons (pv 3) (pa_cons (pv 4) (pa_cons (pv 10) pa_nil))))))
      (pss_cons (ps_set (i := 12) sc_L_chosen.nd rfl (Or.inl rfl) (pe_lst (pa_cons (pe_callTy (k_listS (K := K) rfl) (by rfl) T.z_list (by decide +kernel) (pa_cons (pv 6) pa_nil)) (pa_cons (pe_callTy (k_listS (K := K) rfl) (by rfl) T.z_list (by decide +kernel) (pa_cons (pv 10) pa_nil)) pa_nil))))
      (Evl.pss_cut (ps_if (pt_cmpR (k_eqG (K := K) rfl hr.units) (pe_op op_mod (pe_callTy cr_int1 (by rfl) T.z_int (by decide +kernel) (pa_cons (pe_op op_fdiv (pe_ix (k_ix (K := K) rfl) (pv 1) (pe_op (k_addG (K := K) rfl) pe_int (pv 5)) (fun _ _ => rfl)) pe_int) pa_nil)) pe_int) pe_int (nomark _)) (pss_one (ps_set (i := 12) sc_L_chosen.nd rfl (Or.inl rfl) (pe_lst (pa_cons (pe_callTy (k_tupS (K := K) rfl) (by rfl) T.z_tuple (by decide +kernel) (pa_cons (pv 6) pa_nil)) (pa_cons (pe_callTy (k_tupS (K := K) rfl) (by rfl) T.z_tuple (by decide +kernel) (pa_cons (pv 10) pa_nil)) pa_nil))))) pss_nil)
      (pss_cons (ps_if (pt_not (k_tru (K := K) rfl (pe_call (ok_L_same_at T 2) (hr.mono (by decide)) (by rfl) T.g_L_same T.F_L_same.kp T.b_L_same .nil pass0 (pa_cons (pe_meth (pv 0) T.C_Ask T.m_Ask_choice (ok_Ask_choice T) (hr.mono (by decide)) T.b_Ask_choice .nil pass0 (pa_cons (pe_ix (k_ix (K := K) rfl) (pv 12) pe_int (fun _ _ => rfl)) (pa_cons (pe_ix (k_ix (K := K) rfl) (pv 12) pe_int (fun _ _ => rfl)) pa_nil))) (pa_cons (pv 11) pa_nil))) (by intro _; rfl))) (pss_one (ps_ret pe_bl)) pss_nil)
      (pss_one (ps_if (PW.pt (pw_or (pt_cmpR (k_neG (K := K) rfl hr.units) (pe_callTy (k_listS (K := K) rfl) (by rfl) T.z_list (by decide +kernel) (pa_cons (pe_ix (k_ix (K := K) rfl) (pv 12) pe_int (fun _ _ => rfl)) pa_nil)) (pv 6) (nomark _)) (pw_or1 (pt_cmpR (k_neG (K := K) rfl hr.units) (pe_callTy (k_listS (K := K) rfl) (by rfl) T.z_list (by decide +kernel) (pa_cons (pe_ix (k_ix (K := K) rfl) (pv 12) pe_int (fun _ _ => rfl)) pa_nil)) (pv 10) (nomark _))))) (pss_one (ps_ret pe_bl)) pss_nil))))))))))))
      (pss_one (ps_ret pe_bl))), ?_⟩
    refine go_start (σ' := [some (.ref a), some (.ref p), some (.int L), some vR, some (.ref tap), none, none, none, none, none, none, none, none]) rfl ?_
    try dsimp only [cxOf, Cx.nox, Cx.wish]
    walk_at "go"
    refine l_range (fun i σ H' => ∃ (y5 y6 y7 y8 y9 y10 y11 y12 : Option V), σ = [some (.ref a), some (.ref p), some (.int L), some vR, some (.ref tap), y5, y6, y7, y8, y9, y10, y11, y12] ∧ Same H H')
      (by omega) (by omega) ⟨none, none, none, none, none, none, none, none, rfl, Same.refl _⟩ ?_ ?_
    · rintro i σ H1 hi ⟨y5, y6, y7, y8, y9, y10, y11, y12, rfl, s1⟩
      have hL1' := s1 _ _ hL
      have hi4 : i < 4 := by omega
      walk_at "go"
      refine ⟨Nat.zero_le _, fun D hD => ?_⟩
      have s2 := Same.new (o := .lst []) hD
      have e2 : (upd H1 D (.lst [])) D = some (.lst (([] : List Int).map V.int)) := upd_same
      generalize upd H1 D (.lst []) = H2 at s2 e2 ⊢
      walk_at "go"
      refine l_range (fun j σ H' => ∃ (y7 y8 : Option V) (ws : List Int), σ = [some (.ref a), some (.ref p), some (.int L), some vR, some (.ref tap), some (.int (i : Nat)), some (.ref D), y7, y8, y9, y10, y11, y12] ∧ ws.length = j ∧ (∀ x ∈ ws, 0 ≤ x ∧ x ≤ 1000) ∧ Same H1 H' ∧ H' D = some (.lst (ws.map V.int)))
        (by omega) (by omega) ⟨_, _, [], rfl, rfl, List.forall_mem_nil _, s2, e2⟩ ?_ ?_
      · rintro j σ H3 hj ⟨y7, y8, ws, rfl, hwl, hwb, s3, e3⟩
        have hL3 := s3 _ _ hL1'
        have hj12 : j < 12 := by omega
        walk_at "go"
        refine w_ixI (b := true) (ns := ns) (Sq.lst hL3) (hmn _).1 (hmn _).2 ?_
        have hsd := hnb _ (nth_mem (ns := ns) (hmn (100 + 7 * ((j : Nat) : Int) + ((i : Nat) : Int))).1 (hmn (100 + 7 * ((j : Nat) : Int) + ((i : Nat) : Int))).2)
        generalize nth ns ((100 + 7 * ((j : Nat) : Int) + ((i : Nat) : Int)) % (ns.length : Int)) = sd at hsd ⊢
        walk_at "go"
        refine ⟨by show 4 ≤ sizeLine; decide, fun p5 hp5 => ?_⟩
        have s5 := Same.new (o := .lst [.int 0, .int 1, .int (sd / 4 % 98), .int (sd / 4 % 5)]) hp5
        have e5 : (upd H3 p5 (.lst [.int 0, .int 1, .int (sd / 4 % 98), .int (sd / 4 % 5)])) p5 = some (.lst (([0, 1, sd / 4 % 98, sd / 4 % 5] : List Int).map V.int)) := upd_same
        generalize upd H3 p5 (.lst [.int 0, .int 1, .int (sd / 4 % 98), .int (sd / 4 % 5)]) = H5 at s5 e5 ⊢
        have e35 := s5 _ _ e3
        have hm := nth_mem (ns := [0, 1, sd / 4 % 98, sd / 4 % 5]) (i := sd % 4) (by omega) (by show _ < (4 : Int); omega)
        walk_at "go"
        have hz : 0 ≤ nth [0, 1, sd / 4 % 98, sd / 4 % 5] (sd % 4) ∧ nth [0, 1, sd / 4 % 98, sd / 4 % 5] (sd % 4) ≤ 1000 := by
          simp only [List.mem_cons, List.not_mem_nil, or_false] at hm
          omega
        generalize nth [0, 1, sd / 4 % 98, sd / 4 % 5] (sd % 4) = z at hz ⊢
        walk_at "go"
        refine w_append e35 (line_of1 (by rw [List.length_map]; omega)) ?_
        walk_at "go"
        refine ⟨_, _, ws ++ [z], rfl, by rw [List.length_append, hwl]; rfl, fun x hx => ?_, Same.mut (s3.trans s5) hD, by rw [upd_same, List.map_append]; rfl⟩
        rcases List.mem_append.mp hx with h | h
        · exact hwb x h
        · rw [List.mem_singleton.mp h]; exact hz
      · rintro σ H3 ⟨y7, y8, ws, rfl, hwl, hwb, s3, e3⟩
        have hL3 := s3 _ _ hL1'
        have hwL : ws.length = L := by omega
        walk_at "go"
        refine w_cut (fun σ H' => ∃ (ws : List Int), σ = [some (.ref a), some (.ref p), some (.int L), some vR, some (.ref tap), some (.int (i : Nat)), some (.ref D), y7, y8, y9, y10, y11, y12] ∧ ws.length = L ∧ (∀ x ∈ ws, 0 ≤ x ∧ x ≤ 1000) ∧ Same H1 H' ∧ H' D = some (.lst (ws.map V.int))) ?_ ?_
        · walk_at "go"
          refine w_iteD (fun _ => ?_) (fun _ => ?_)
          · walk_at "go"
            have h9 := hmod (nth ns 9)
            refine w_setI e3 h9.1 (by omega) ?_
            walk_at "go"
            refine ⟨_, rfl, by rw [List.length_set]; exact hwL, fun x hx => ?_, Same.mut s3 hD, upd_same⟩
            rcases List.mem_or_eq_of_mem_set hx with h1 | h1
            · exact hwb x h1
            · rw [h1]; omega
          · walk_at "go"
            exact ⟨ws, rfl, hwL, hwb, s3, e3⟩
        clear hwl hwL hwb e3 s3 hL3
        clear ws
        rintro σ H4 ⟨ws, rfl, hwl, hwb, s4, e4⟩
        have hL4 := s4 _ _ hL1'
        walk_at "go"
        generalize hlg : nth ns (10 + ((i : Nat) : Int)) % 9 = lg
        have hlg2 : 0 ≤ lg ∧ lg < 9 := by omega
        refine c_intsR (by omega) (by omega) (natI (letF (fun j => nth ns ((20 + ((i : Nat) : Int) + 5 * j) % (ns.length : Int))) L lg.toNat)) (by rw [natI_len, letF_len]) (fun _ => rfl) (fun j H5 M hj s5 hM => ?_) (fun tD H5 htD s5 e5 => ?_)
        · have hL5 := s5 _ _ hL4
          walk_at "go"
          refine w_ixI (b := true) (ns := ns) (Sq.lst hL5) (hmn _).1 (hmn _).2 ?_
          walk_at "go"
          have e := letF_nth (f := fun j => nth ns ((20 + ((i : Nat) : Int) + 5 * j) % (ns.length : Int))) (L := L) (n := lg.toNat) (i := j) (by omega) (by omega)
          have h := hM _ (Same.refl _)
          rw [e] at h
          exact h
        have htl := letF_len (fun j => nth ns ((20 + ((i : Nat) : Int) + 5 * j) % (ns.length : Int))) L lg.toNat
        have htx := letF_lt (f := fun j => nth ns ((20 + ((i : Nat) : Int) + 5 * j) % (ns.length : Int))) (L := L) (n := lg.toNat) (by omega)
        generalize letF (fun j => nth ns ((20 + ((i : Nat) : Int) + 5 * j) % (ns.length : Int))) L lg.toNat = tx at e5 htl htx
        have e45 := s5 _ _ e4
        have s15 := (s1.trans s4).trans s5
        have hT5 := s15.sq hT
        have hR5 := RRuT.mono _ _ _ _ s15 hR
        walk_at "go"
        refine ⟨_, _, tap, tD, ws, ak.tape, ak.rule, tx, true, L, rfl, ⟨true, D, rfl, Sq.lst e45⟩, hwl, by omega, by omega, hwb, hR5, ok.rule, hT5, Sq.lst e5, htx, fun H6 s6 => ?_⟩
        have s16 := s15.trans s6
        have hL6 := s16 _ _ hL
        have e6w := s6 _ _ e45
        have e6t := s6 _ _ e5
        generalize hdue : choiceD ak.rule ak.tape ws tx = due
        walk_at "go"
        refine w_listS (Sq.lst e6w) fun h1 hh1 => ?_
        have s7 := Same.new (o := .lst (ws.map V.int)) hh1
        have e7 : (upd H6 h1 (.lst (ws.map V.int))) h1 = some (.lst (ws.map V.int)) := upd_same
        generalize upd H6 h1 (.lst (ws.map V.int)) = H7 at s7 e7 ⊢
        have e7t := s7 _ _ e6t
        walk_at "go"
        refine w_listS (Sq.lst e7t) fun h2 hh2 => ?_
        have s8 := Same.new (o := .lst ((natI tx).map V.int)) hh2
        have e8 : (upd H7 h2 (.lst ((natI tx).map V.int))) h2 = some (.lst ((natI tx).map V.int)) := upd_same
        generalize upd H7 h2 (.lst ((natI tx).map V.int)) = H8 at s8 e8 ⊢
        have e87 := s8 _ _ e7
        walk_at "go"
        refine ⟨by show 2 ≤ sizeLine; decide, fun hp hhp => ?_⟩
        have s9 := Same.new (o := .lst [.ref h1, .ref h2]) hhp
        have e9 : (upd H8 hp (.lst [.ref h1, .ref h2])) hp = some (.lst [.ref h1, .ref h2]) := upd_same
        generalize upd H8 hp (.lst [.ref h1, .ref h2]) = H9 at s9 e9 ⊢
        have s69 := (s7.trans s8).trans s9
        have hL9 := s69 _ _ hL6
        have e9w := s69 _ _ e6w
        have e9t := s69 _ _ e6t
        walk_at "go"
        refine w_cut (fun σ H' => ∃ (hp x y : Addr) (b : Bool), σ = [some (.ref a), some (.ref p), some (.int L), some vR, some (.ref tap), some (.int (i : Nat)), some (.ref D), y7, y8, some (.int lg), some (.ref tD), some (vN due), some (.ref hp)] ∧ Same H6 H' ∧ H' hp = some (.lst [.ref x, .ref y]) ∧ Sq b K H' x (ws.map V.int) ∧ Sq b K H' y ((natI tx).map V.int)) ?_ ?_
        · walk_at "go"
          refine w_iteD (fun _ => ?_) (fun _ => ?_)
          · walk_at "go"
            refine w_tupAny (Sq.lst e9w) fun t1 H10 s10 ht1 => ?_
            have e10t := s10 _ _ e9t
            walk_at "go"
            refine w_tupAny (Sq.lst e10t) fun t2 H11 s11 ht2 => ?_
            walk_at "go"
            refine ⟨by show 2 ≤ sizeLine; decide, fun h3 hh3 => ?_⟩
            have s12 := Same.new (o := .lst [.ref t1, .ref t2]) hh3
            walk_at "go"
            exact ⟨h3, t1, t2, false, rfl, ((s69.trans s10).trans s11).trans s12, upd_same, (s11.trans s12).sq ht1, s12.sq ht2⟩
          · walk_at "go"
            exact ⟨hp, h1, h2, true, rfl, s69, e9, Sq.lst (s9 _ _ e87), Sq.lst (s9 _ _ e8)⟩
        rintro σ H10 ⟨hp', x, y, b, rfl, s10, e10, hx, hy⟩
        have s110 := s16.trans s10
        have hA10 := ask_same s110 hA
        obtain ⟨_, _, _, _, _, h10, _⟩ := id hA10
        unfold AskF at h10
        have hLw := s10 _ _ e6w
        have hLt := s10 _ _ e6t
        walk_at "go"
        refine w_ix (Sq.lst e10) (atI_nat (j := 0) rfl) ?_
        walk_at "go"
        refine w_ix (Sq.lst e10) (atI_nat (j := 1) rfl) ?_
        walk_at "go"
        refine ⟨a, ak, .ref x, .ref y, ws, tx, L, rfl, hA10, ok, ⟨b, x, rfl, hx⟩, hwl, hwb, ⟨b, y, rfl, hy⟩, htx, by omega, by omega, fun H11 s11 => ?_⟩
        rw [hdue]
        walk_at "go"
        refine ⟨_, _, rfl, Sm.vN due, ?_⟩
        have e11 := s11 _ _ e10
        walk_at "go"
        refine w_ix (Sq.lst e11) (atI_nat (j := 0) rfl) ?_
        walk_at "go"
        refine w_listS (s11.sq hx) fun l1 hl1 => ?_
        have s12 := Same.new (o := .lst (ws.map V.int)) hl1
        have e12 : (upd H11 l1 (.lst (ws.map V.int))) l1 = some (.lst (ws.map V.int)) := upd_same
        generalize upd H11 l1 (.lst (ws.map V.int)) = H12 at s12 e12 ⊢
        have s1012 := s11.trans s12
        have e12h := s12 _ _ e11
        walk_at "go"
        refine w_neInts (Sq.lst e12) (Sq.lst (s1012 _ _ hLw)) ?_
        walk_at "go"
        refine w_ix (Sq.lst e12h) (atI_nat (j := 1) rfl) ?_
        walk_at "go"
        refine w_listS (s1012.sq hy) fun l2 hl2 => ?_
        have s13 := Same.new (o := .lst ((natI tx).map V.int)) hl2
        have e13 : (upd H12 l2 (.lst ((natI tx).map V.int))) l2 = some (.lst ((natI tx).map V.int)) := upd_same
        generalize upd H12 l2 (.lst ((natI tx).map V.int)) = H13 at s13 e13 ⊢
        walk_at "go"
        refine w_neInts (Sq.lst e13) (Sq.lst ((s1012.trans s13) _ _ hLt)) ?_
        walk_at "go"
        exact ⟨_, _, _, _, _, _, _, _, rfl, (s110.trans s1012).trans s13⟩
    · rintro σ H1 ⟨y5, y6, y7, y8, y9, y10, y11, y12, rfl, s1⟩
      walk_at "go"
      exact k _ s1

/-! ### the law -/
theorem new_of {H H2 : Hp} {p : Addr} {o : HO} (hH : upd H p o = H2) (hp : H p = none) : Same H H2 ∧ H2 p = some o := by subst hH; exact ⟨Same.new hp, upd_same⟩
def ppD (b : Bool) (xs : List PyData) : PyData := if b then .list xs else .tuple xs
def hdD (b : Bool) (pr : List Nat) (ss : List (List Nat)) (tape : List Int) : PyData := .tuple [ppD b ((natI pr).map .int), ppD b (ss.map fun s => ppD b ((natI s).map .int)), ppD b (tape.map .int)]
/-- what is handed in: lists, all new, or tuples -/
def Hnd (K : PySem.W.Frag) (H0 H : Hp) (hp : Addr) (pr : List Nat) (ss : List (List Nat)) (tape : List Int) : Bool → Prop
  | true => ∃ p1 p2 p3 xs, H hp = some (.tup [.ref p1, .ref p2, .ref p3]) ∧ H p1 = some (.lst ((natI pr).map V.int)) ∧ H0 p1 = none ∧ H p2 = some (.lst xs) ∧ H0 p2 = none ∧ H p3 = some (.lst (tape.map V.int)) ∧ H0 p3 = none ∧ p1 ≠ p2 ∧ p1 ≠ p3 ∧ p2 ≠ p3 ∧ xs.length = ss.length ∧
      ∀ (i : Nat) y s, xs[i]? = some y → ss[i]? = some s → ∃ q, y = .ref q ∧ H q = some (.lst ((natI s).map V.int)) ∧ H0 q = none ∧ q ≠ p1 ∧ q ≠ p2 ∧ q ≠ p3
  | false => ∃ p1 p2 p3, H hp = some (.tup [.ref p1, .ref p2, .ref p3]) ∧ Sq false K H p1 ((natI pr).map V.int) ∧ RRows false false K H (.ref p2) (stopsV ss) ∧ Sq false K H p3 (tape.map V.int)
theorem Hnd.mono {K : PySem.W.Frag} {H0 H H' : Hp} {hp : Addr} {pr : List Nat} {ss : List (List Nat)} {tape : List Int} {b : Bool} (s : Same H H') (h : Hnd K H0 H hp pr ss tape b) : Hnd K H0 H' hp pr ss tape b := by
  cases b with
  | true =>
    obtain ⟨p1, p2, p3, xs, h0, h1, n1, h2, n2, h3, n3, e1, e2, e3, hl, hr⟩ := h
    exact ⟨p1, p2, p3, xs, s _ _ h0, s _ _ h1, n1, s _ _ h2, n2, s _ _ h3, n3, e1, e2, e3, hl, fun i y d a b => by
      obtain ⟨q, e, hq, r⟩ := hr i y d a b
      exact ⟨q, e, s _ _ hq, r⟩⟩
  | false =>
    obtain ⟨p1, p2, p3, h0, h1, h2, h3⟩ := h
    exact ⟨p1, p2, p3, s _ _ h0, s.sq h1, RRows.mono _ _ _ _ s h2, s.sq h3⟩
theorem dp_vec {K : PySem.W.Frag} {b : Bool} {H : Hp} {p : Addr} {ns : List Int} (h : Sq b K H p (ns.map V.int)) : Dp K H (.ref p) (ppD b (ns.map PyData.int)) := dp_ints h
theorem Hnd.parts {K : PySem.W.Frag} {H0 H : Hp} {hp : Addr} {pr : List Nat} {ss : List (List Nat)} {tape : List Int} {b : Bool} (h : Hnd K H0 H hp pr ss tape b) : ∃ p1 p2 p3, H hp = some (.tup [.ref p1, .ref p2, .ref p3]) ∧ RVecX K H (.ref p1) (natI pr) ∧ (∃ b1 b2, RRows b1 b2 K H (.ref p2) (stopsV ss)) ∧ RVecX K H (.ref p3) tape ∧ Dp K H (.ref hp) (hdD b pr ss tape) := by
  cases b with
  | true =>
    obtain ⟨p1, p2, p3, xs, h0, h1, n1, h2, n2, h3, n3, e1, e2, e3, hl, hr⟩ := h
    refine ⟨p1, p2, p3, h0, ⟨true, p1, rfl, Sq.lst h1⟩, ⟨true, true, p2, xs, rfl, Sq.lst h2, by rw [stopsV_len]; exact hl, fun i y d a b => ?_⟩, ⟨true, p3, rfl, Sq.lst h3⟩, .tup (Sq.tup h0) (.cons (dp_vec (b := true) (Sq.lst h1)) (.cons (.lst (Sq.lst h2) (dpAll_map (R := fun H v (s : List Nat) => ∃ q, v = .ref q ∧ H q = some (.lst ((natI s).map V.int))) (fun v s ⟨q, e, hq⟩ => by rw [e]; exact dp_vec (b := true) (Sq.lst hq)) hl fun i y x a b => ?_)) (.cons (dp_vec (b := true) (Sq.lst h3)) .nil)))⟩
    · obtain ⟨s, hs⟩ : ∃ s, ss[i]? = some s := ⟨ss[i]'(by have := (List.getElem?_eq_some_iff.mp a).1; omega), List.getElem?_eq_getElem (by have := (List.getElem?_eq_some_iff.mp a).1; omega)⟩
      obtain ⟨q, e, hq, _⟩ := hr i y s a hs
      rw [stopsV_at hs] at b
      cases b
      exact ⟨q, e, Sq.lst hq⟩
    · obtain ⟨q, e, hq, _⟩ := hr i y x a b
      exact ⟨q, e, hq⟩
  | false =>
    obtain ⟨p1, p2, p3, h0, h1, h2, h3⟩ := h
    obtain ⟨_, xs, e, hx, hxl, hxr⟩ := id h2
    cases e
    rw [stopsV_len] at hxl
    refine ⟨p1, p2, p3, h0, ⟨false, p1, rfl, h1⟩, ⟨false, false, h2⟩, ⟨false, p3, rfl, h3⟩, .tup (Sq.tup h0) (.cons (dp_vec (b := false) h1) (.cons (.tup hx (dpAll_map (R := fun H v (s : List Nat) => ∃ q, v = .ref q ∧ Sq false K H q ((natI s).map V.int)) (fun v s ⟨q, e, hq⟩ => by rw [e]; exact dp_vec (b := false) hq) hxl fun i y x a b => ?_)) (.cons (dp_vec (b := false) h3) .nil)))⟩
    obtain ⟨q, e, hq⟩ := hxr i y _ a (stopsV_at b)
    exact ⟨q, e, hq⟩
theorem ShA.pp {b : Bool} {ds : List PyData} {n w : Nat} (h : ShA ds n w) : ShW (ppD b ds) (n + 1) w := by
  cases b
  · exact h.tup
  · exact h.lst
theorem shw_hd {b : Bool} {pr : List Nat} {ss : List (List Nat)} {tape : List Int} {L : Nat} (hL : L ≤ 12) (h1 : ∀ l ∈ pr, l < L) (h2 : ∀ s ∈ ss, 1 ≤ s.length ∧ s.length ≤ 10 ∧ ∀ l ∈ s, l < L) (h3 : ∀ t ∈ tape, (0 : Int) ≤ t ∧ t < 1000000) (l1 : pr.length ≤ 20) (l2 : ss.length ≤ 4) (l3 : tape.length ≤ 12) : ShW (hdD b pr ss tape) 3 600 := by
  have big : (10 : Nat) ^ 12 = 1000000000000 := by decide
  have hint : ∀ {ls : List Nat}, (∀ l ∈ ls, l < L) → ShW (ppD b ((natI ls).map PyData.int)) 1 ((0 + 1) * ls.length) := fun {ls} h => by
    have := ShA.pp (b := b) (ShA.map (f := PyData.int) (n := 0) (w := 0) (ds := natI ls) fun d hd => by
      have := natI_lt h d hd
      exact ShW.int (by omega))
    rw [natI_len] at this
    exact this
  have g1 := (hint h1).up (n' := 2) (w' := 20) (by omega) (by omega)
  have g2 := (ShA.pp (b := b) (ShA.map (f := fun s : List Nat => ppD b ((natI s).map PyData.int)) (n := 1) (w := 10) (ds := ss) fun s hs => (hint (h2 s hs).2.2).up (Nat.le_refl _) (by have := (h2 s hs).2.1; omega))).up (n' := 2) (w' := 44) (by omega) (by
    have := Nat.mul_le_mul_left (10 + 1) l2
    omega)
  have g3 := (ShA.pp (b := b) (ShA.map (f := PyData.int) (n := 0) (w := 0) (ds := tape) fun d hd => by
      have := h3 d hd
      exact ShW.int (by omega))).up (n' := 2) (w' := 12) (by omega) (by omega)
  exact (ShA.tup (.cons g1 (.cons g2 (.cons g3 (.nil (w := 0)))))).up (Nat.le_refl _) (by omega)
theorem stops_sm {K : PySem.W.Frag} {H : Hp} {x y : V} {ss : List (List Nat)} (hl : ss.length ≤ 1000) (hs : ∀ s ∈ ss, s.length ≤ 1000) (h1 : RRows false false K H x (stopsV ss)) (h2 : RRows false false K H y (stopsV ss)) : Sm K H 2 x y := by
  refine RSeq.sm (n := 1) (by rw [stopsV_len]; omega) (fun x y d hd r1 r2 => ?_) h1 h2
  obtain ⟨s, hs', rfl⟩ := List.mem_map.mp hd
  obtain ⟨p, rfl, hp⟩ := r1
  obtain ⟨q, rfl, hq⟩ := r2
  exact RVec.sm (n := 0) (b := false) (ns := natI s) (by rw [natI_len]; have := hs s hs'; omega) ⟨p, rfl, hp⟩ ⟨q, rfl, hq⟩
theorem ask_updL {K : PySem.W.Frag} {CA CR : Addr} {H : Hp} {a q : Addr} {xs : List V} {o : HO} {ak : AskD} (hq : H q = some (.lst xs)) (h : IsAsk K CA CR H a ak) : IsAsk K CA CR (upd H q o) a ak := by
  obtain ⟨dx, ap, as_, at_, vr, h1, h2, h3, h4, h5⟩ := h
  refine ⟨dx, ap, as_, at_, vr, (upd_ne (fun e => by rw [e, hq] at h1; cases h1)).trans h1, sqU hq h2, RRows.updL hq h3, sqU hq h4, ?_⟩
  cases hru : ak.rule with
  | none => rw [hru] at h5; exact h5
  | some p =>
    rw [hru] at h5
    obtain ⟨r, e, hr⟩ := h5
    exact ⟨r, e, rule_upd hq hr⟩
theorem so_int (i : Int) : PyData.strOk (PyData.shown (.int i)) = true := by
  simp only [PyData.shown]
  exact strOk_of _
def sp_law (K : PySem.W.Frag) : Sp := fun vs H Q _ => ∃ (a : Addr) (ns : List Int), vs = [.ref a] ∧ SqL K H a (ns.map V.int) ∧ ns.length ≤ 63 ∧ ∀ H', Q (.bl true) H'
theorem ok_law (T : Txt K mg) : FnG P w K mg base CX0 6 T.a_law T.d_law ["_law_script"] (sp_law K) := by
  refine T.F_law.okG sc_law (fun vs H Q E h => ?_) (fun cdv A outer s H vs Q E hA hr h => ?_)
  · obtain ⟨_, _, rfl, _⟩ := h
    rfl
  · obtain ⟨a, sc, rfl, hS0, hlen, k⟩ := h
    have hS : Sq true K H a (sc.map V.int) := hS0
    have cA := T.C_Ask
    have cR := T.C_Rule
    have na1 := T.n_Ask_prompt
    have na2 := T.n_Ask_most
    have na3 := T.n_Ask_stops
    have na4 := T.n_Ask_tape
    have na5 := T.n_Ask_rule
    refine ⟨_, (pss_cons (ps_for PassesOwn.never rfl (pi_range1 rfl T.z_range (pa_cons (pe_callB (cr_min2 rfl) (by rfl) T.z_min (by decide +kernel) (pa_cons (pe_callB (k_lenS (K := K) rfl) (by rfl) T.z_len (by decide +kernel) (pa_cons (pv 0) pa_nil)) (pa_cons pe_int pa_nil))) pa_nil)) (pg_name (i := 1) sc_law.nd rfl (Or.inl rfl))
      (pss_cons (ps_set (i := 2) sc_law.nd rfl (Or.inr rfl) (pe_call (ok_L_numbers T) (hr.mono (by decide)) (by rfl) T.g_L_numbers T.F_L_numbers.kp T.b_L_numbers .nil pass0 (pa_cons (pe_ix (k_ix (K := K) rfl) (pv 0) (pv 1) (fun _ _ => rfl)) (pa_cons (pv 1) (pa_cons pe_int pa_nil)))))
      (pss_cons (ps_set (i := 3) sc_law.nd rfl (Or.inr rfl) (pe_ix (k_ix (K := K) rfl) (pe_lst (pa_cons pe_int (pa_cons pe_int (pa_cons pe_int (pa_cons pe_int (pa_cons pe_int (pa_cons (pe_op (k_addG (K := K) rfl) pe_int (pe_op op_mod (pe_callTy cr_int1 (by rfl) T.z_int (by decide +kernel) (pa_cons (pe_ix (k_ix (K := K) rfl) (pv 2) pe_int (fun _ _ => rfl)) pa_nil)) pe_int)) pa_nil))))))) (pe_op op_mod (pe_callTy cr_int1 (by rfl) T.z_int (by decide +kernel) (pa_cons (pe_ix (k_ix (K := K) rfl) (pv 2) pe_int (fun _ _ => rfl)) pa_nil)) pe_int) (fun _ _ => rfl)))
      (pss_cons (ps_setLc (i := 4) (own := [("_law_k", 14)]) (g := gName 14) (tt := tYes) rfl sc_law.nd rfl rfl (sw_true rfl rfl rfl (by decide +kernel)) (pi_range1 rfl T.z_range (pa_cons (pe_op (k_addG (K := K) rfl) pe_int (pe_op op_mod (pe_callTy cr_int1 (by rfl) T.z_int (by decide +kernel) (pa_cons (pe_ix (k_ix (K := K) rfl) (pv 2) pe_int (fun _ _ => rfl)) pa_nil)) pe_int)) pa_nil)) (blkOk_by (own := [("_law_k", 14)]) (by kernel_rfl)) (fun _ _ _ _ _ => (pg_name (i := 14) sc_law.nd rfl (by first | exact Or.inl rfl | exact Or.inr rfl))) (fun _ _ _ _ _ => pts_nil) (fun _ _ _ _ _ => (pe_op op_mod (pe_callTy cr_int1 (by rfl) T.z_int (by decide +kernel) (pa_cons (pe_ix (k_ix (K := K) rfl) (pv 2) (pe_op (k_addG (K := K) rfl) pe_int (pv 14)) (fun _ _ => rfl)) pa_nil)) (pv 3))))
      (pss_cons (ps_set (i := 5) sc_law.nd rfl (Or.inl rfl) (pe_ix (k_ix (K := K) rfl) (pe_lst (pa_cons pe_int (pa_cons pe_int (pa_cons (pe_op (k_addG (K := K) rfl) pe_int (pe_op op_mod (pe_callTy cr_int1 (by rfl) T.z_int (by decide +kernel) (pa_cons (pe_ix (k_ix (K := K) rfl) (pv 2) pe_int (fun _ _ => rfl)) pa_nil)) pe_int)) pa_nil)))) (pe_op op_mod (pe_callTy cr_int1 (by rfl) T.z_int (by decide +kernel) (pa_cons (pe_ix (k_ix (K := K) rfl) (pv 2) pe_int (fun _ _ => rfl)) pa_nil)) pe_int) (fun _ _ => rfl)))
      (pss_cons (ps_set (i := 6) sc_law.nd rfl (Or.inl rfl) (pe_call (ok_L_stops T) (hr.mono (by decide)) (by rfl) T.g_L_stops T.F_L_stops.kp T.b_L_stops .nil pass0 (pa_cons (pv 2) (pa_cons pe_int (pa_cons (pv 3) pa_nil)))))
      (pss_cons (ps_set (i := 7) sc_law.nd rfl (Or.inl rfl) (pe_call (ok_L_tape T) (hr.mono (by decide)) (by rfl) T.g_L_tape T.F_L_tape.kp T.b_L_tape .nil pass0 (pa_cons (pv 2) (pa_cons pe_int pa_nil))))
      (pss_cons (ps_set (i := 8) sc_law.nd rfl (Or.inl rfl) (pe_call (ok_L_rule T) (hr.mono (by decide)) (by rfl) T.g_L_rule T.F_L_rule.kp T.b_L_rule .nil pass0 (pa_cons (pv 2) (pa_cons pe_int (pa_cons (pv 3) pa_nil)))))
      (pss_cons (ps_set (i := 9) sc_law.nd rfl (Or.inl rfl) pe_non)
      (Evl.pss_cut (ps_if (pt_cmpR op_notNN (pv 8) pe_non (nomark _)) (pss_one (ps_set (i := 9) sc_law.nd rfl (Or.inl rfl) (pe_make T.M_Rule (ok_Rule___init__ T) (hr.mono (by decide)) rfl T.gc_Rule T.b_Rule___init__ .nil pass0 (pa_cons (pe_ix (k_ix (K := K) rfl) (pv 8) pe_int (fun _ _ => rfl)) (pa_cons (pe_ix (k_ix (K := K) rfl) (pv 8) pe_int (fun _ _ => rfl)) pa_nil))))) pss_nil)
      (pss_cons (ps_set (i := 10) sc_law.nd rfl (Or.inl rfl) (pe_tup (pa_cons (pe_callTy (k_listS (K := K) rfl) (by rfl) T.z_list (by decide +kernel) (pa_cons (pv 4) pa_nil)) (pa_cons (pe_lc (own := [("_law_stop", 15)]) (g := gName 15) (tt := tYes) rfl sc_law.nd (k_seqS (K := K) rfl (pv 6)) (blkOk_by (own := [("_law_stop", 15)]) (by kernel_rfl)) (fun _ _ _ _ _ => (pg_name (i := 15) sc_law.nd rfl (by first | exact Or.inl rfl | exact Or.inr rfl))) (fun _ _ _ _ _ => pts_nil) (fun _ _ _ _ _ => (pe_callTy (k_listS (K := K) rfl) (by rfl) T.z_list (by decide +kernel) (pa_cons (pv 15) pa_nil)))) (pa_cons (pe_callTy (k_listS (K := K) rfl) (by rfl) T.z_list (by decide +kernel) (pa_cons (pv 7) pa_nil)) pa_nil)))))
      (Evl.pss_cut (ps_if (pt_cmpR (k_eqG (K := K) rfl hr.units) (pe_op op_mod (pe_callTy cr_int1 (by rfl) T.z_int (by decide +kernel) (pa_cons (pe_ix (k_ix (K := K) rfl) (pv 2) pe_int (fun _ _ => rfl)) pa_nil)) pe_int) pe_int (nomark _)) (pss_one (ps_set (i := 10) sc_law.nd rfl (Or.inl rfl) (pe_tup (pa_cons (pe_callTy (k_tupS (K := K) rfl) (by rfl) T.z_tuple (by decide +kernel) (pa_cons (pv 4) pa_nil)) (pa_cons (pv 6) (pa_cons (pv 7) pa_nil)))))) pss_nil)
      (pss_cons (ps_set (i := 11) sc_law.nd rfl (Or.inl rfl) (pe_callB (k_reprG (K := K) rfl hA hr.units) (by rfl) T.z_repr (by decide +kernel) (pa_cons (pv 10) pa_nil)))
      (pss_cons (ps_set (i := 12) sc_law.nd rfl (Or.inl rfl) (pe_call (ok_L_made T) (hr.mono (by decide)) (by rfl) T.g_L_made T.F_L_made.kp T.b_L_made .nil pass0 (pa_cons (pe_ix (k_ix (K := K) rfl) (pv 10) pe_int (fun _ _ => rfl)) (pa_cons (pv 5) (pa_cons (pe_ix (k_ix (K := K) rfl) (pv 10) pe_int (fun _ _ => rfl)) (pa_cons (pe_ix (k_ix (K := K) rfl) (pv 10) pe_int (fun _ _ => rfl)) (pa_cons (pv 9) (pa_cons (pe_cmpR (k_eqG (K := K) rfl hr.units) (pe_op op_mod (pe_callTy cr_int1 (by rfl) T.z_int (by decide +kernel) (pa_cons (pe_ix (k_ix (K := K) rfl) (pv 2) pe_int (fun _ _ => rfl)) pa_nil)) pe_int) pe_int (nomark _)) pa_nil))))))))
      (pss_cons (ps_if (pt_cmpR (k_neG (K := K) rfl hr.units) (pe_callB (k_reprG (K := K) rfl hA hr.units) (by rfl) T.z_repr (by decide +kernel) (pa_cons (pv 10) pa_nil)) (pv 11) (nomark _)) (pss_one (ps_ret pe_bl)) pss_nil)
      (Evl.pss_cut (ps_if (pt_cmpR op_gt (pe_op op_mod (pe_callTy cr_int1 (by rfl) T.z_int (by decide +kernel) (pa_cons (pe_ix (k_ix (K := K) rfl) (pv 2) pe_int (fun _ _ => rfl)) pa_nil)) pe_int) pe_int (nomark _)) (pss_cons (ps_expr (k_bm (K := K) rfl PySem.F.plainAttrs_list PySem.F.slot_list_append PySem.F.type_list_append mt_append (pe_ix (k_ix (K := K) rfl) (pv 10) pe_int (fun _ _ => rfl)) (pa_cons pe_int pa_nil)))
      (pss_cons (ps_expr (k_bm (K := K) rfl PySem.F.plainAttrs_list PySem.F.slot_list_append PySem.F.type_list_append mt_append (pe_ix (k_ix (K := K) rfl) (pv 10) pe_int (fun _ _ => rfl)) (pa_cons (pe_lst (pa_cons pe_int pa_nil)) pa_nil)))
      (pss_cons (ps_expr (k_bm (K := K) rfl PySem.F.plainAttrs_list PySem.F.slot_list_append PySem.F.type_list_append mt_append (pe_ix (k_ix (K := K) rfl) (pv 10) pe_int (fun _ _ => rfl)) (pa_cons pe_int pa_nil)))
      (pss_one (ps_if (pt_cmpR op_gt (pe_callB (k_lenS (K := K) rfl) (by rfl) T.z_len (by decide +kernel) (pa_cons (pv 6) pa_nil)) pe_int (nomark _)) (pss_one (ps_expr (k_bm (K := K) rfl PySem.F.plainAttrs_list PySem.F.slot_list_append PySem.F.type_list_append mt_append (pe_ix (k_ix (K := K) rfl) (pe_ix (k_ix (K := K) rfl) (pv 10) pe_int (fun _ _ => rfl)) pe_int (fun _ _ => rfl)) (pa_cons pe_int pa_nil)))) pss_nil))))) pss_nil)
      (pss_cons (ps_if (PW.pt (pw_or (pt_not (k_tru (K := K) rfl (pe_call (ok_L_same_at T 2) (hr.mono (by decide)) (by rfl) T.g_L_same T.F_L_same.kp T.b_L_same .nil pass0 (pa_cons (k_fld (K := K) rfl (pv 12) rfl) (pa_cons (pe_callTy (k_tupS (K := K) rfl) (by rfl) T.z_tuple (by decide +kernel) (pa_cons (pv 4) pa_nil)) pa_nil))) (by intro _; rfl))) (pw_or1 (pt_not (k_tru (K := K) rfl (pe_call (ok_L_same_at T 2) (hr.mono (by decide)) (by rfl) T.g_L_same T.F_L_same.kp T.b_L_same .nil pass0 (pa_cons (k_fld (K := K) rfl (pv 12) rfl) (pa_cons (pv 5) pa_nil))) (by intro _; rfl)))))) (pss_one (ps_ret pe_bl)) pss_nil)
      (pss_cons (ps_if (PW.pt (pw_or (pt_not (k_tru (K := K) rfl (pe_call (ok_L_same_at T 2) (hr.mono (by decide)) (by rfl) T.g_L_same T.F_L_same.kp T.b_L_same .nil pass0 (pa_cons (k_fld (K := K) rfl (pv 12) rfl) (pa_cons (pv 6) pa_nil))) (by intro _; rfl))) (pw_or1 (pt_not (k_tru (K := K) rfl (pe_call (ok_L_same_at T 2) (hr.mono (by decide)) (by rfl) T.g_L_same T.F_L_same.kp T.b_L_same .nil pass0 (pa_cons (k_fld (K := K) rfl (pv 12) rfl) (pa_cons (pv 7) pa_nil))) (by intro _; rfl)))))) (pss_one (ps_ret pe_bl)) pss_nil)
      (Evl.pss_cut (ps_if (PW.pt (pw_or (pt_cmpR (k_neG (K := K) rfl hr.units) (pe_cmpR op_isNN (k_fld (K := K) rfl (pv 12) rfl) pe_non (nomark _)) (pe_cmpR op_isNN (pv 8) pe_non (nomark _)) (nomark _)) (pw_or1 (PW.pt (pw_and (pt_cmpR op_notNN (pv 8) pe_non (nomark _)) (pw_and1 (pt_not (pt_cmpR (op_eqO T.e_Rule (ok_Rule___eq__ T) (hr.mono (by decide)) T.b_Rule___eq__ pass0) (k_fld (K := K) rfl (pv 12) rfl) (pv 9) (nomark _))))))))) (pss_one (ps_ret pe_bl)) pss_nil)
      (pss_cons (ps_if (pt_not (k_tru (K := K) rfl (pe_call (ok_L_chosen T) (hr.mono (by decide)) (by rfl) T.g_L_chosen T.F_L_chosen.kp T.b_L_chosen .nil pass0 (pa_cons (pv 12) (pa_cons (pv 2) (pa_cons (pv 3) (pa_cons (pv 8) (pa_cons (pv 7) pa_nil)))))) (by intro _; rfl))) (pss_one (ps_ret pe_bl)) pss_nil)
      (pss_cons (ps_set (i := 13) sc_law.nd rfl (Or.inl rfl) (pe_lst (pa_cons pe_int (pa_cons pe_int (pa_cons (pe_un un_neg pe_int) (pa_cons (pe_op (k_addG (K := K) rfl) pe_int (pe_ix (k_ix (K := K) rfl) (pv 2) pe_int (fun _ _ => rfl))) (pa_cons (pe_op op_pow pe_int pe_int) (pa_cons pe_bl (pa_cons pe_bl (pa_cons pe_non (pa_cons pe_str (pa_cons (pe_tup (pa_cons pe_int pa_nil)) (pa_cons (pe_lst (pa_cons pe_int pa_nil)) (pa_cons (pe_tup pa_nil) pa_nil))))))))))))))
      (pss_one (ps_if (pt_not (k_tru (K := K) rfl (pe_callG (ok_L_refuses T) hA (hr.mono (by decide)) (by rfl) T.g_L_refuses T.F_L_refuses.kp T.b_L_refuses pass0 (pa_cons (pe_callTy (k_tupS (K := K) rfl) (by rfl) T.z_tuple (by decide +kernel) (pa_cons (pv 4) pa_nil)) (pa_cons (pe_ix (k_ix (K := K) rfl) (pv 13) (pe_op op_mod (pe_callTy cr_int1 (by rfl) T.z_int (by decide +kernel) (pa_cons (pe_ix (k_ix (K := K) rfl) (pv 2) pe_int (fun _ _ => rfl)) pa_nil)) pe_int) (fun _ _ => rfl)) pa_nil))) (by intro _; rfl))) (pss_one (ps_ret pe_bl)) pss_nil)))))))))))))))))))))))
      (pss_one (ps_ret pe_bl))), ?_⟩
    refine go_start (σ' := [some (.ref a), none, none, none, none, none, none, none, none, none, none, none, none, none, none, none]) rfl ?_
    try dsimp only [cxOf, Cx.nox, Cx.wish]
    walk_at "go"
    have hm : (if (8 : Int) < (sc.length : Int) then 8 else (sc.length : Int)) ≤ sc.length ∧ (if (8 : Int) < (sc.length : Int) then 8 else (sc.length : Int)) ≤ 8 ∧ (0 : Int) ≤ (if (8 : Int) < (sc.length : Int) then 8 else (sc.length : Int)) := by split <;> omega
    refine l_range (fun i σ H' => ∃ (y1 y2 y3 y4 y5 y6 y7 y8 y9 y10 y11 y12 y13 : Option V), σ = [some (.ref a), y1, y2, y3, y4, y5, y6, y7, y8, y9, y10, y11, y12, y13, none, none] ∧ Same H H')
      (by omega) (by omega) ⟨none, none, none, none, none, none, none, none, none, none, none, none, none, rfl, Same.refl _⟩ ?_ ?_
    · rintro i σ H' hi ⟨y1, y2, y3, y4, y5, y6, y7, y8, y9, y10, y11, y12, y13, rfl, sm⟩
      walk_at "go"
      refine ⟨_, _, _, rfl, by omega, by omega, fun ns p H1 hnl hnb s1 hp hL => ?_⟩
      have nn : ∀ i : Int, 0 ≤ i → i < 270 → 0 ≤ nth ns i ∧ nth ns i < 1000 := fun i h0 h1 => hnb _ (nth_mem h0 (by omega))
      have m0 := nn 0 (by omega) (by omega)
      have m1 := nn 1 (by omega) (by omega)
      have m2 := nn 2 (by omega) (by omega)
      have m3 := nn 3 (by omega) (by omega)
      have m4 := nn 4 (by omega) (by omega)
      have m5 := nn 5 (by omega) (by omega)
      have m6 := nn 6 (by omega) (by omega)
      have m7 := nn 7 (by omega) (by omega)
      have m8 := nn 8 (by omega) (by omega)
      walk_at "go"
      -- letters
      refine ⟨by show 6 ≤ sizeLine; decide, fun p2 hp2 => ?_⟩
      generalize hH2 : upd _ p2 _ = H2
      obtain ⟨s2, e2'⟩ := new_of hH2 hp2
      have e2 : H2 p2 = some (.lst (([1, 2, 3, 4, 5, 1 + nth ns 1 % 12] : List Int).map V.int)) := e2'
      clear hH2 e2'
      have hL2 := s2 _ _ hL
      have hLm := nth_mem (ns := [1, 2, 3, 4, 5, 1 + nth ns 1 % 12]) (i := nth ns 0 % 6) (by omega) (by show _ < (6 : Int); omega)
      walk_at "go"
      generalize nth [1, 2, 3, 4, 5, 1 + nth ns 1 % 12] (nth ns 0 % 6) = Lz at hLm ⊢
      have hLz : 1 ≤ Lz ∧ Lz ≤ 12 := by
        simp only [List.mem_cons, List.not_mem_nil, or_false] at hLm
        omega
      obtain ⟨L, rfl⟩ : ∃ L : Nat, Lz = (L : Int) := ⟨Lz.toNat, by omega⟩
      clear hLm e2
      have hmodL : ∀ z : Int, 0 ≤ z % (L : Int) ∧ z % (L : Int) < L := fun z => ⟨Int.emod_nonneg _ (by omega), Int.emod_lt_of_pos _ (by omega)⟩
      walk_at "go"
      -- the prompt
      refine c_intsR (by omega) (by omega) (natI (letP ns L 20 (1 + nth ns 2 % 20).toNat)) (by rw [natI_len, letP_len]) (fun _ => rfl) (fun j H8 M hj s8 hM => ?_) (fun D3 H3 hD3 s3 e3 => ?_)
      · have hL8 := s8 _ _ hL2
        walk_at "go"
        rw [← letP_nth (n := (1 + nth ns 2 % 20).toNat) (by omega) (by omega)]
        exact hM _ (Same.refl _)
      have hpl' := letP_len ns L 20 (1 + nth ns 2 % 20).toNat
      have hpx := letP_lt (ns := ns) (L := L) (o := 20) (n := (1 + nth ns 2 % 20).toNat) (by omega)
      generalize letP ns L 20 (1 + nth ns 2 % 20).toNat = pr at e3 hpl' hpx
      have hL3 := s3 _ _ hL2
      walk_at "go"
      -- most
      refine ⟨by show 3 ≤ sizeLine; decide, fun p4 hp4 => ?_⟩
      generalize hH4 : upd _ p4 _ = H4
      obtain ⟨s4, e4'⟩ := new_of hH4 hp4
      have e4 : H4 p4 = some (.lst (([1, 30, 1 + nth ns 3 % 30] : List Int).map V.int)) := e4'
      clear hH4 e4'
      have hL4 := s4 _ _ hL3
      have e34 := s4 _ _ e3
      have hmm := nth_mem (ns := [1, 30, 1 + nth ns 3 % 30]) (i := nth ns 4 % 3) (by omega) (by show _ < (3 : Int); omega)
      walk_at "go"
      generalize nth [1, 30, 1 + nth ns 3 % 30] (nth ns 4 % 3) = mz at hmm ⊢
      have hmz : 1 ≤ mz ∧ mz ≤ 30 := by
        simp only [List.mem_cons, List.not_mem_nil, or_false] at hmm
        omega
      obtain ⟨mo, rfl⟩ : ∃ mo : Nat, mz = (mo : Int) := ⟨mz.toNat, by omega⟩
      clear hmm e4
      walk_at "go"
      refine ⟨p, ns, _, L, rfl, hL4, by omega, by omega, by omega, by omega, fun ss vS H5 hsl hso s5 rS => ?_⟩
      obtain ⟨sp, xsS, rfl, hxS, hxSl, hxSr⟩ := id rS
      rw [stopsV_len] at hxSl
      have hL5 := s5 _ _ hL4
      have e35 := s5 _ _ e34
      walk_at "go"
      refine ⟨p, ns, _, rfl, hL5, by omega, by omega, fun x hx => (hnb x hx).1, fun tape vT H6 htl htn' s6 ⟨tp, e, hT⟩ => ?_⟩
      subst e
      have htn : ∀ t ∈ tape, (0 : Int) ≤ t ∧ t < 1000000 := fun t ht => ⟨(htn' t ht).1, (htn' t ht).2 fun x hx => (hnb x hx).2⟩
      clear htn'
      have hL6 := s6 _ _ hL5
      have e36 := s6 _ _ e35
      have rS6 := RRows.mono _ _ _ _ s6 rS
      walk_at "go"
      refine ⟨p, ns, _, L, rfl, hL6, by omega, by omega, by omega, by omega, fun ru vR H7 hro s7 rR => ?_⟩
      have hL7 := s7 _ _ hL6
      have e37 := s7 _ _ e36
      have rS7 := RRows.mono _ _ _ _ s7 rS6
      have hT7 := s7.sq hT
      have hxS7 := (s6.trans s7).sq hxS
      have hxSr7 : ∀ (i : Nat) y d, xsS[i]? = some y → (stopsV ss)[i]? = some d → RRw false K H7 y d := fun i y d a b => RRw.mono _ _ _ _ (s6.trans s7) (hxSr i y d a b)
      clear hxSr
      have s07 := ((((((sm.trans s1).trans s2).trans s3).trans s4).trans s5).trans s6).trans s7
      clear s1 s2 s3 s4 s5 s6 s7 hL2 hL3 hL4 hL5 hL6 e34 e35 e36 e3 rS rS6 hT hxS
      have okA : AskOk ⟨pr, mo, ss, tape, ru⟩ L := ⟨hpx, by show 1 ≤ pr.length ∧ pr.length ≤ 30; omega, by show 1 ≤ mo ∧ mo ≤ 30; omega, hso, by show ss.length ≤ 10; omega, fun t ht => (htn t ht).1, by show tape.length ≤ 100; omega, hro⟩
      walk_at "go"
      -- the drawn rule
      refine w_cut (fun σ H' => ∃ rv, σ = [some (.ref a), some (.int (i : Nat)), some (.ref p), some (.int (L : Nat)), some (.ref D3), some (.int (mo : Nat)), some (.ref sp), some (.ref tp), some vR, some rv, y10, y11, y12, y13, none, none] ∧ Same H7 H' ∧ IsRuleV K T.c_Rule H' rv ru) ?_ ?_
      · cases ru with
        | none =>
          have rR : vR = .non := rR
          subst rR
          walk_at "go"
          exact ⟨_, rfl, Same.refl _, rfl⟩
        | some pq =>
          obtain ⟨s0, st⟩ := pq
          obtain ⟨n, okS, hs0, hs1⟩ := hro
          obtain ⟨rp, qv, rfl, hp0', hR⟩ := id rR
          have hstl := okS.len
          have hstn := okS.n1
          walk_at "go"
          refine w_ix hp0' (atI_nat (j := 0) rfl) ?_
          walk_at "go"
          refine w_ix hp0' (atI_nat (j := 1) rfl) ?_
          walk_at "go"
          intro r dx hr' hdx hne'
          have sB : Same H7 (upd (upd H7 dx (.own r)) r (.ins T.c_Rule dx [])) := (Same.new hdx).trans (Same.new (by rw [upd_ne (Ne.symm hne')]; exact hr'))
          refine ⟨r, dx, s0, _, false, false, st, rfl, upd_same, RRows.mono _ _ _ _ sB hR, by omega, fun H9 f9 hI => ⟨rfl, ?_⟩⟩
          have s9 : Same H7 H9 := fun c o hc => f9 _ _ (ne_of_none hc hr') (sB _ _ hc)
          walk_at "go"
          exact ⟨_, rfl, s9, r, rfl, hI⟩
      rintro σ H8 ⟨rv, rfl, s8, hrv⟩
      have hL8 := s8 _ _ hL7
      have e38 := s8 _ _ e37
      have rS8 := RRows.mono _ _ _ _ s8 rS7
      have hT8 := s8.sq hT7
      have hxS8 := s8.sq hxS7
      have hxSr8 : ∀ (i : Nat) y d, xsS[i]? = some y → (stopsV ss)[i]? = some d → RRw false K H8 y d := fun i y d a b => RRw.mono _ _ _ _ s8 (hxSr7 i y d a b)
      clear hxSr7
      have rR8 := RRuT.mono _ _ _ _ s8 rR
      have s08 := s07.trans s8
      clear hL7 e37 rS7 hT7 hxS7 rR s07 s8
      walk_at "go"
      -- what is handed in
      refine w_listS (Sq.lst e38) fun q1 hq1 => ?_
      generalize hH9 : upd _ q1 _ = H9
      obtain ⟨s9, e9⟩ := new_of hH9 hq1
      clear hH9
      walk_at "go"
      refine c_fresh (stopsV ss) xsS (s9.sq hxS8) (by rw [stopsV_len]; omega) (line_of1 (by omega)) (fun _ => rfl) (fun j x r H10 N hj hx hr' s10 hN => ?_) (fun q2 H10 s10 F10 => ?_)
      · obtain ⟨pp, rfl, hpp⟩ := RRw.mono _ _ _ _ (s9.trans s10) (hxSr8 j x r hx hr')
        walk_at "go"
        refine w_listS hpp fun l hl => ?_
        exact hN _ _ hl (Same.new hl) upd_same
      have hT10 := (s9.trans s10).sq hT8
      walk_at "go"
      refine w_listS hT10 fun q3 hq3 => ?_
      generalize hH11 : upd _ q3 _ = H11
      obtain ⟨s11, e11⟩ := new_of hH11 hq3
      clear hH11
      walk_at "go"
      refine ⟨by show 3 ≤ sizeLine; decide, fun hp1 hhp1 => ?_⟩
      generalize hH12 : upd _ hp1 _ = H12
      obtain ⟨s12, e12⟩ := new_of hH12 hhp1
      clear hH12
      have s10_12 := s11.trans s12
      have s8_12 := (s9.trans s10).trans s10_12
      have hd12 : Hnd K H8 H12 hp1 pr ss tape true := by
        obtain ⟨ps, f1, f2, f3, f4, f5, f6, f7⟩ := F10
        rw [stopsV_len] at f2
        refine ⟨q1, q2, q3, ps.map V.ref, e12, (s10.trans s10_12) _ _ e9, hq1, s10_12 _ _ f1, none_back s9 f5, s12 _ _ e11, none_back (s9.trans s10) hq3, fun e => ?_, fun e => ?_, fun e => ?_, by rw [List.length_map]; exact f2, fun i y s h1 h2 => ?_⟩
        · rw [e, f5] at e9; cases e9
        · have := s10 _ _ e9
          rw [e, hq3] at this; cases this
        · rw [e, hq3] at f1; cases f1
        · rw [List.getElem?_map] at h1
          cases ep : ps[i]? with
          | none => rw [ep] at h1; cases h1
          | some pp =>
            rw [ep] at h1
            cases h1
            have hpm := List.mem_of_getElem? ep
            have g7 := f7 i pp _ ep (stopsV_at h2)
            refine ⟨pp, rfl, s10_12 _ _ g7, none_back s9 (f4 pp hpm), fun e => ?_, fun e => ?_, fun e => ?_⟩
            · have := f4 pp hpm
              rw [e, e9] at this; cases this
            · rw [e] at hpm; exact f6 hpm
            · rw [e, hq3] at g7; cases g7
      have hL12 := s8_12 _ _ hL8
      have e312 := s8_12 _ _ e38
      have rS12 := RRows.mono _ _ _ _ s8_12 rS8
      have hT12 := s8_12.sq hT8
      clear s9 s10 s11 s12 s10_12 F10 hT10 e9 e11 e12
      walk_at "go"
      refine w_cut (fun σ H' => ∃ (b : Bool) (hp : Addr), σ = [some (.ref a), some (.int (i : Nat)), some (.ref p), some (.int (L : Nat)), some (.ref D3), some (.int (mo : Nat)), some (.ref sp), some (.ref tp), some vR, some rv, some (.ref hp), y11, y12, y13, none, none] ∧ (b = true ↔ 0 < nth ns 5 % 2) ∧ Same H8 H' ∧ Hnd K H8 H' hp pr ss tape b) ?_ ?_
      · walk_at "go"
        refine w_iteD (fun h5 => ?_) (fun h5 => ?_)
        · walk_at "go"
          refine w_tupL (Sq.lst e312) fun t1 ht1 => ?_
          generalize hH13 : upd _ t1 _ = H13
          obtain ⟨s13, e13⟩ := new_of hH13 ht1
          clear hH13
          walk_at "go"
          refine ⟨by show 3 ≤ sizeLine; decide, fun t2 ht2 => ?_⟩
          generalize hH14 : upd _ t2 _ = H14
          obtain ⟨s14, e14⟩ := new_of hH14 ht2
          clear hH14
          have s12_14 := s13.trans s14
          walk_at "go"
          exact ⟨false, t2, rfl, ⟨fun h => (nomatch h), fun h => absurd h (by omega)⟩, s8_12.trans s12_14, t1, sp, tp, e14, Sq.tup (s14 _ _ e13), RRows.mono _ _ _ _ s12_14 rS12, s12_14.sq hT12⟩
        · walk_at "go"
          exact ⟨true, hp1, rfl, ⟨fun _ => by omega, fun _ => rfl⟩, s8_12, hd12⟩
      clear hd12 hL12 e312 rS12 hT12 s8_12 hhp1 hq3 hq1
      rintro σ H12 ⟨b, hp', rfl, hb, s12, hd⟩
      have hL12 := s12 _ _ hL8
      obtain ⟨p1, p2', p3, eh, v1, ⟨b1, b2, v2⟩, v3, hdp⟩ := hd.parts
      have hsh := shw_hd (b := b) (pr := pr) (ss := ss) (tape := tape) (L := L) (by omega) hpx hso htn (by omega) (by omega) (by omega)
      walk_at "go"
      refine w_repr hdp hsh (by omega) (by omega) ?_
      walk_at "go"
      refine w_ix (Sq.tup eh) (atI_nat (j := 0) rfl) ?_
      walk_at "go"
      refine w_ix (Sq.tup eh) (atI_nat (j := 1) rfl) ?_
      walk_at "go"
      refine w_ix (Sq.tup eh) (atI_nat (j := 2) rfl) ?_
      walk_at "go"
      refine ⟨⟨pr, mo, ss, tape, ru⟩, _, _, _, rv, b1, b2, _, L, rfl, okA, v1, v2, v3, ruleV_same s12 hrv, fun q H13 s13 hA => ?_⟩
      obtain ⟨_, _, _, _, _, _, _, hdp2⟩ := (hd.mono s13).parts
      walk_at "go"
      refine w_repr hdp2 hsh (by omega) (by omega) ?_
      walk_at "go"
      refine w_neSS ?_
      have hd13 := hd.mono s13
      have s813 := s12.trans s13
      clear hdp hdp2 hsh v1 v2 v3 eh hd hL12 s12 s13
      walk_at "go"
      have hL13 := s813 _ _ hL8
      -- the lists changed later
      refine w_cut (fun σ H' => σ = [some (.ref a), some (.int (i : Nat)), some (.ref p), some (.int (L : Nat)), some (.ref D3), some (.int (mo : Nat)), some (.ref sp), some (.ref tp), some vR, some rv, some (.ref hp'), some (.str (hdD b pr ss tape).shown), some (.ref q), y13, none, none] ∧ Same H8 H' ∧ IsAsk K T.c_Ask T.c_Rule H' q ⟨pr, mo, ss, tape, ru⟩) ?_ ?_
      · walk_at "go"
        refine w_iteD (fun h5 => ?_) (fun h5 => ?_)
        · have eb := hb.mpr h5
          subst eb
          obtain ⟨p1, p2, p3, xs, h0, h1, n1, h2, n2, h3, n3, e1, e2, e3, hl, hr'⟩ := hd13
          have z0 : Sq false K H13 hp' [.ref p1, .ref p2', .ref p3] ∨ True := .inr trivial
          clear z0
          walk_at "go"
          refine w_ix (Sq.tup h0) (atI_nat (j := 0) rfl) ?_
          walk_at "go"
          refine w_append h1 (line_of1 (by rw [List.length_map, natI_len]; omega)) ?_
          have hA1 := ask_updL (o := .lst ((natI pr).map V.int ++ [V.int 0])) h1 hA
          have t1 : Same H8 (upd H13 p1 (.lst ((natI pr).map V.int ++ [V.int 0]))) := s813.mut n1
          have h01 := sqU (K := K) (o := .lst ((natI pr).map V.int ++ [V.int 0])) h1 (Sq.tup h0)
          have h21 : (upd H13 p1 (.lst ((natI pr).map V.int ++ [V.int 0]))) p2 = some (.lst xs) := (upd_ne (Ne.symm e1)).trans h2
          have h31 : (upd H13 p1 (.lst ((natI pr).map V.int ++ [V.int 0]))) p3 = some (.lst (tape.map V.int)) := (upd_ne (Ne.symm e2)).trans h3
          have hr1 : ∀ (i : Nat) y s, xs[i]? = some y → ss[i]? = some s → ∃ q, y = .ref q ∧ (upd H13 p1 (.lst ((natI pr).map V.int ++ [V.int 0]))) q = some (.lst ((natI s).map V.int)) ∧ H8 q = none ∧ q ≠ p1 ∧ q ≠ p2 ∧ q ≠ p3 := fun i y s c d => by
            obtain ⟨q, e, g1, g2, g3, g4, g5⟩ := hr' i y s c d
            exact ⟨q, e, (upd_ne g3).trans g1, g2, g3, g4, g5⟩
          clear hr' hA
          generalize upd H13 p1 (.lst ((natI pr).map V.int ++ [V.int 0])) = H14 at hA1 t1 h01 h21 h31 hr1 ⊢
          walk_at "go"
          refine w_ix h01 (atI_nat (j := 1) rfl) ?_
          walk_at "go"
          refine ⟨by show 1 ≤ sizeLine; decide, fun l0 hl0 => ?_⟩
          generalize hH15 : upd _ l0 _ = H15
          obtain ⟨s15, e15⟩ := new_of hH15 hl0
          clear hH15
          have h22 := s15 _ _ h21
          walk_at "go"
          refine w_append h22 (line_of1 (by omega)) ?_
          have hA2 := ask_updL (o := .lst (xs ++ [V.ref l0])) h22 (ask_same s15 hA1)
          have t2 : Same H8 (upd H15 p2 (.lst (xs ++ [V.ref l0]))) := (t1.trans s15).mut n2
          have h02 := sqU (K := K) (o := .lst (xs ++ [V.ref l0])) h22 (s15.sq h01)
          have h32 : (upd H15 p2 (.lst (xs ++ [V.ref l0]))) p3 = some (.lst (tape.map V.int)) := (upd_ne (Ne.symm e3)).trans (s15 _ _ h31)
          have h23 : (upd H15 p2 (.lst (xs ++ [V.ref l0]))) p2 = some (.lst (xs ++ [V.ref l0])) := upd_same
          have hr2 : ∀ (i : Nat) y s, xs[i]? = some y → ss[i]? = some s → ∃ q, y = .ref q ∧ (upd H15 p2 (.lst (xs ++ [V.ref l0]))) q = some (.lst ((natI s).map V.int)) ∧ H8 q = none ∧ q ≠ p1 ∧ q ≠ p2 ∧ q ≠ p3 := fun i y s c d => by
            obtain ⟨q, e, g1, g2, g3, g4, g5⟩ := hr1 i y s c d
            exact ⟨q, e, (upd_ne g4).trans (s15 _ _ g1), g2, g3, g4, g5⟩
          clear hr1 hA1
          generalize upd H15 p2 (.lst (xs ++ [V.ref l0])) = H16 at hA2 t2 h02 h32 h23 hr2 ⊢
          walk_at "go"
          refine w_ix h02 (atI_nat (j := 2) rfl) ?_
          walk_at "go"
          refine w_append h32 (line_of1 (by rw [List.length_map]; omega)) ?_
          have hA3 := ask_updL (o := .lst (tape.map V.int ++ [V.int 5])) h32 hA2
          have t3 : Same H8 (upd H16 p3 (.lst (tape.map V.int ++ [V.int 5]))) := t2.mut n3
          have h03 := sqU (K := K) (o := .lst (tape.map V.int ++ [V.int 5])) h32 h02
          have h24 : (upd H16 p3 (.lst (tape.map V.int ++ [V.int 5]))) p2 = some (.lst (xs ++ [V.ref l0])) := (upd_ne e3).trans h23
          have hr3 : ∀ (i : Nat) y s, xs[i]? = some y → ss[i]? = some s → ∃ q, y = .ref q ∧ (upd H16 p3 (.lst (tape.map V.int ++ [V.int 5]))) q = some (.lst ((natI s).map V.int)) ∧ H8 q = none := fun i y s c d => by
            obtain ⟨q, e, g1, g2, g3, g4, g5⟩ := hr2 i y s c d
            exact ⟨q, e, (upd_ne g5).trans g1, g2⟩
          clear hr2 hA2
          generalize upd H16 p3 (.lst (tape.map V.int ++ [V.int 5])) = H17 at hA3 t3 h03 h24 hr3 ⊢
          have hxS17 := t3.sq hxS8
          walk_at "go"
          refine w_iteD (fun hs0 => ?_) (fun hs0 => ?_)
          · have hx0 : xs[0]? = some (xs[0]'(by omega)) := List.getElem?_eq_getElem (by omega)
            have hss0 : ss[0]? = some (ss[0]'(by omega)) := List.getElem?_eq_getElem (by omega)
            have hso0 := hso _ (List.mem_of_getElem? hss0)
            obtain ⟨q0, eq0, g1, g2⟩ := hr3 0 _ _ hx0 hss0
            rw [eq0] at hx0
            walk_at "go"
            refine w_ix h03 (atI_nat (j := 1) rfl) ?_
            walk_at "go"
            refine w_ix (Sq.lst h24) (atI_nat (j := 0) (by rw [List.getElem?_append_left (by omega)]; exact hx0)) ?_
            walk_at "go"
            refine w_append g1 (line_of1 (by rw [List.length_map, natI_len]; omega)) ?_
            walk_at "go"
            exact ⟨rfl, t3.mut g2, ask_updL g1 hA3⟩
          · walk_at "go"
            exact ⟨rfl, t3, hA3⟩
        · walk_at "go"
          exact ⟨rfl, s813, hA⟩
      clear hd13 hA hL13 s813
      rintro σ H14 ⟨rfl, s14, hA⟩
      have hL14 := s14 _ _ hL8
      have e314 := s14 _ _ e38
      have rS14 := RRows.mono _ _ _ _ s14 rS8
      have hT14 := s14.sq hT8
      have rR14 := RRuT.mono _ _ _ _ s14 rR8
      have hrv14 := ruleV_same s14 hrv
      have s014 := s08.trans s14
      clear hL8 e38 rS8 hT8 hxS8 rR8 hrv s08 s14
      obtain ⟨dxa, ap, as_, at_, vr, hq0, hqp, hqs, hqt, hqr⟩ := id hA
      unfold AskF at hq0
      dsimp only at hq0 hqp hqs hqt hqr
      walk_at "go"
      refine w_tupL (Sq.lst e314) fun t1 ht1 => ?_
      generalize hH15 : upd _ t1 _ = H15
      obtain ⟨s15, e15⟩ := new_of hH15 ht1
      clear hH15
      walk_at "go"
      refine ⟨_, _, rfl, RVec.sm (n := 1) (b := false) (by rw [natI_len]; omega) ⟨_, rfl, s15.sq hqp⟩ ⟨_, rfl, Sq.tup e15⟩, ?_⟩
      have hq15 := s15 _ _ hq0
      walk_at "go"
      refine ⟨_, _, rfl, Sm.int, ?_⟩
      walk_at "go"
      refine ⟨_, _, rfl, stops_sm (by omega) (fun s hs => by have := (hso s hs).2.1; omega) (RRows.mono _ _ _ _ s15 hqs) (RRows.mono _ _ _ _ s15 rS14), ?_⟩
      walk_at "go"
      refine ⟨_, _, rfl, RVec.sm (n := 1) (b := false) (by omega) ⟨_, rfl, s15.sq hqt⟩ ⟨_, rfl, s15.sq hT14⟩, ?_⟩
      have hA15 := ask_same s15 hA
      walk_at "go"
      -- the rule
      refine w_cut (fun σ H' => σ = [some (.ref a), some (.int (i : Nat)), some (.ref p), some (.int (L : Nat)), some (.ref D3), some (.int (mo : Nat)), some (.ref sp), some (.ref tp), some vR, some rv, some (.ref hp'), some (.str (hdD b pr ss tape).shown), some (.ref q), y13, none, none] ∧ Same H15 H') ?_ ?_
      · cases ru with
        | none =>
          have r1 : vR = .non := rR14
          have r2 : vr = .non := hqr
          subst r1 r2
          walk_at "go"
          refine w_neBB ?_
          walk_at "go"
          exact ⟨rfl, Same.refl _⟩
        | some pq =>
          obtain ⟨s0, st⟩ := pq
          obtain ⟨rp, qv, rfl, _⟩ := id rR14
          obtain ⟨r, rfl, hI⟩ := hqr
          obtain ⟨r2, rfl, hI2⟩ := hrv14
          have hI := rule_same s15 hI
          have hI2 := rule_same s15 hI2
          obtain ⟨dr, _, h0r, _⟩ := id hI
          obtain ⟨dr2, _, h0r2, _⟩ := id hI2
          walk_at "go"
          refine w_neBB ?_
          walk_at "go"
          refine ⟨r, _, _, _, rfl, h0r, T.o_Rule.tyx cR h0r2, first_self, r, s0, st, _, rfl, hI, .inl ⟨r2, s0, st, rfl, hI2, fun H16 s16 => ⟨_, rfl, ?_⟩⟩⟩
          rw [decide_eq_true ⟨rfl, rfl⟩]
          walk_at "go"
          exact ⟨rfl, s16⟩
      rintro σ H16 ⟨rfl, s16⟩
      have s1416 := s15.trans s16
      have hL16 := s1416 _ _ hL14
      have e316 := s1416 _ _ e314
      walk_at "go"
      refine ⟨q, p, tp, _, ns, L, vR, rfl, ask_same s16 hA15, okA, hL16, by omega, hnb, by omega, by omega, RRuT.mono _ _ _ _ s1416 rR14, s1416.sq hT14, fun H17 s17 => ?_⟩
      have hL17 := s17 _ _ hL16
      have e317 := s17 _ _ e316
      walk_at "go"
      -- a most that is none
      refine ⟨by show 1 ≤ sizeLine; decide, fun o1 ho1 => ?_⟩
      generalize hH18 : upd _ o1 _ = H18
      obtain ⟨s18, e18⟩ := new_of hH18 ho1
      clear hH18
      walk_at "go"
      refine ⟨by show 1 ≤ sizeLine; decide, fun o2 ho2 => ?_⟩
      generalize hH19 : upd _ o2 _ = H19
      obtain ⟨s19, e19⟩ := new_of hH19 ho2
      clear hH19
      walk_at "go"
      refine ⟨Nat.zero_le _, fun o3 ho3 => ?_⟩
      generalize hH20 : upd _ o3 _ = H20
      obtain ⟨s20, e20⟩ := new_of hH20 ho3
      clear hH20
      walk_at "go"
      refine ⟨by show 12 ≤ sizeLine; decide, fun o4 ho4 => ?_⟩
      generalize hH21 : upd _ o4 _ = H21
      obtain ⟨s21, e21⟩ := new_of hH21 ho4
      clear hH21
      have t18 := ((s19.trans s20).trans s21) _ _ e18
      have t19 := (s20.trans s21) _ _ e19
      have t20 := s21 _ _ e20
      have s1721 := ((s18.trans s19).trans s20).trans s21
      have hL21 := s1721 _ _ hL17
      have e321 := s1721 _ _ e317
      have big : (10 : Int) ^ Int.toNat 30 = 1000000000000000000000000000000 := by decide
      rw [big] at e21
      walk_at "go"
      refine w_tupL (Sq.lst e321) fun t2 ht2 => ?_
      generalize hH22 : upd _ t2 _ = H22
      obtain ⟨s22, e22⟩ := new_of hH22 ht2
      clear hH22
      have e2122 := s22 _ _ e21
      have t18 := s22 _ _ t18
      have t19 := s22 _ _ t19
      have t20 := s22 _ _ t20
      walk_at "go"
      have hall : ∀ (j : Nat) y, [V.int 0, V.int 31, V.int (-1), V.int (32 + nth ns 7), V.int 1000000000000000000000000000000, V.bl true, V.bl false, V.non, V.str (Str.ofString "1"), V.ref o1, V.ref o2, V.ref o3][j]? = some y → ∃ d, ROdd K H22 y d ∧ inB 1 30 d = false ∧ PyData.strOk d.shown = true := fun j y hy => by
        match j, hy with
        | 0, hy => cases hy; exact ⟨_, ROdd.int (by decide), in_not (by omega), so_int _⟩
        | 1, hy => cases hy; exact ⟨_, ROdd.int (by decide), in_not (by omega), so_int _⟩
        | 2, hy => cases hy; exact ⟨_, ROdd.int (by decide), in_not (by omega), so_int _⟩
        | 3, hy => cases hy; exact ⟨_, ROdd.int (log_small (by show (32 + nth ns 7).natAbs < _; have : (2 : Nat) ^ 200 > 10000 := (by decide); omega)), in_not (by omega), so_int _⟩
        | 4, hy => cases hy; exact ⟨_, ROdd.int (by decide), in_not (by omega), so_int _⟩
        | 5, hy => cases hy; exact ⟨.bool true, ⟨⟨rfl, rfl, Nat.zero_le _, .inl (by decide +kernel)⟩, .inr (.inl ⟨_, rfl, rfl⟩)⟩, rfl, by decide +kernel⟩
        | 6, hy => cases hy; exact ⟨.bool false, ⟨⟨rfl, rfl, Nat.zero_le _, .inl (by decide +kernel)⟩, .inr (.inl ⟨_, rfl, rfl⟩)⟩, rfl, by decide +kernel⟩
        | 7, hy => cases hy; exact ⟨.none, ⟨⟨rfl, rfl, Nat.zero_le _, .inl (by decide +kernel)⟩, .inl ⟨rfl, rfl⟩⟩, rfl, by decide +kernel⟩
        | 8, hy => cases hy; exact ⟨.str (Str.ofString "1"), ⟨⟨rfl, rfl, Nat.zero_le _, .inl (by decide +kernel)⟩, .inr (.inr (.inr (.inl ⟨_, rfl, rfl⟩)))⟩, rfl, by decide +kernel⟩
        | 9, hy => cases hy; exact ⟨.tuple [.int 1], ⟨⟨by decide +kernel, by decide +kernel, by decide +kernel, .inl (by decide +kernel)⟩, .inr (.inr (.inr (.inr ⟨o1, false, [1], rfl, Sq.tup t18, rfl⟩)))⟩, rfl, by decide +kernel⟩
        | 10, hy => cases hy; exact ⟨.list [.int 1], ⟨⟨by decide +kernel, by decide +kernel, by decide +kernel, .inl (by decide +kernel)⟩, .inr (.inr (.inr (.inr ⟨o2, true, [1], rfl, Sq.lst t19, rfl⟩)))⟩, rfl, by decide +kernel⟩
        | 11, hy => cases hy; exact ⟨.tuple [], ⟨⟨by decide +kernel, by decide +kernel, by decide +kernel, .inl (by decide +kernel)⟩, .inr (.inr (.inr (.inr ⟨o3, false, [], rfl, Sq.tup t20, rfl⟩)))⟩, rfl, by decide +kernel⟩
        | j + 12, hy => simp at hy
      obtain ⟨j, hj, hj2⟩ : ∃ j : Nat, nth ns 8 % 12 = (j : Int) ∧ j < 12 := ⟨(nth ns 8 % 12).toNat, by omega, by omega⟩
      obtain ⟨y, hy⟩ : ∃ y, [V.int 0, V.int 31, V.int (-1), V.int (32 + nth ns 7), V.int 1000000000000000000000000000000, V.bl true, V.bl false, V.non, V.str (Str.ofString "1"), V.ref o1, V.ref o2, V.ref o3][j]? = some y := ⟨_, List.getElem?_eq_getElem (by show j < 12; omega)⟩
      obtain ⟨d, hd1, hd2, hd3⟩ := hall j y hy
      rw [hj]
      refine w_ix (Sq.lst e2122) (atI_nat hy) ?_
      walk_at "go"
      refine ⟨_, y, d, rfl, hd1, hd2, hd3, fun H23 s23 => ?_⟩
      walk_at "go"
      exact ⟨_, _, _, _, _, _, _, _, _, _, _, _, _, rfl, (((s014.trans s1416).trans s17).trans s1721).trans (s22.trans s23)⟩
    · rintro σ H' ⟨y1, y2, y3, y4, y5, y6, y7, y8, y9, y10, y11, y12, y13, rfl, sm⟩
      walk_at "go"
      exact k _

end
theorem all_mk {l : PySem.W.OpenLaw} {w : World} {K : PySem.W.Frag} {h : Heap} {mg : Str → Option Value} {fa CAsk CRule CServeError CInvalidNumber CInvalidLetter CNoHouse CNoRequest CNoRoom CNotAlone CNotHeld CTooLarge fInvalidNumber___init__ fis_between fgreatest fby_number fAsk___init__ DAsk___init__ WAsk___init___stops WAsk___init___tape fAsk_let_weights fAsk_choice fRule___init__ fRule___eq__ fRule_after fRule_lets fL_numbers fL_same fL_after fL_counted fL_choice fL_rule fL_stops fL_tape fL_made fL_refuses fL_chosen flaw : Addr} (X : K.In h) (G : h.Ns mainGlobals mg) (hfa : mg "law" = some (.ref fa))
    {odInvalidNumber___init__ anInvalidNumber___init__ odis_between anis_between odgreatest angreatest odby_number anby_number odAsk___init__ anAsk___init__ oWAsk___init___stops oWAsk___init___tape odAsk_let_weights anAsk_let_weights odAsk_choice anAsk_choice odRule___init__ anRule___init__ odRule___eq__ anRule___eq__ odRule_after anRule_after odRule_lets anRule_lets odL_numbers anL_numbers odL_same anL_same odL_after anL_after odL_counted anL_counted odL_choice anL_choice odL_rule anL_rule odL_stops anL_stops odL_tape anL_tape odL_made anL_made odL_refuses anL_refuses odL_chosen anL_chosen odlaw anlaw : Option Addr} {slInvalidNumber___init__ slis_between slgreatest slby_number slAsk___init__ sWAsk___init___stops sWAsk___init___tape slAsk_let_weights slAsk_choice slRule___init__ slRule___eq__ slRule_after slRule_lets slL_numbers slL_same slL_after slL_counted slL_choice slL_rule slL_stops slL_tape slL_made slL_refuses slL_chosen sllaw : Array (Option Value)} {ocInvalidNumber___init__ kVInvalidNumber___init__ dcInvalidNumber___init__ pmInvalidNumber___init__ cdInvalidNumber___init__ ctInvalidNumber___init__ ocis_between kVis_between dcis_between pmis_between cdis_between ctis_between ocgreatest kVgreatest dcgreatest pmgreatest cdgreatest ctgreatest ocby_number kVby_number dcby_number pmby_number cdby_number ctby_number ocAsk___init__ dcAsk___init__ pmAsk___init__ cdAsk___init__ ctAsk___init__ ocAsk_let_weights kVAsk_let_weights dcAsk_let_weights pmAsk_let_weights cdAsk_let_weights ctAsk_let_weights ocAsk_choice kVAsk_choice dcAsk_choice pmAsk_choice cdAsk_choice ctAsk_choice ocRule___init__ kVRule___init__ dcRule___init__ pmRule___init__ cdRule___init__ ctRule___init__ ocRule___eq__ kVRule___eq__ dcRule___eq__ pmRule___eq__ cdRule___eq__ ctRule___eq__ ocRule_after kVRule_after dcRule_after pmRule_after cdRule_after ctRule_after ocRule_lets kVRule_lets dcRule_lets pmRule_lets cdRule_lets ctRule_lets ocL_numbers kVL_numbers dcL_numbers pmL_numbers cdL_numbers ctL_numbers ocL_same kVL_same dcL_same pmL_same cdL_same ctL_same ocL_after kVL_after dcL_after pmL_after cdL_after ctL_after ocL_counted kVL_counted dcL_counted pmL_counted cdL_counted ctL_counted ocL_choice kVL_choice dcL_choice pmL_choice cdL_choice ctL_choice ocL_rule kVL_rule dcL_rule pmL_rule cdL_rule ctL_rule ocL_stops kVL_stops dcL_stops pmL_stops cdL_stops ctL_stops ocL_tape kVL_tape dcL_tape pmL_tape cdL_tape ctL_tape ocL_made kVL_made dcL_made pmL_made cdL_made ctL_made ocL_refuses kVL_refuses dcL_refuses pmL_refuses cdL_refuses ctL_refuses ocL_chosen kVL_chosen dcL_chosen pmL_chosen cdL_chosen ctL_chosen oclaw kVlaw dclaw pmlaw cdlaw ctlaw : Value}
    {nmInvalidNumber qnInvalidNumber : Str} {NInvalidNumber : Addr} {bsInvalidNumber subInvalidNumber : List Value} {snInvalidNumber : List Str} {abInvalidNumber : Bool} {colInvalidNumber : Option Bool} {ddInvalidNumber : Option Addr} {m0InvalidNumber m1InvalidNumber m2InvalidNumber m3InvalidNumber m5InvalidNumber : Option Value}
    (aCAsk : PySem.W.nsIn K mainGlobals "Ask" = some (some (.ref CAsk))) (pgAsk : PySem.W.plainGet K CAsk Str.empty = true) (hdAsk : PySem.W.hasDictIn K CAsk = true) (poAsk : PySem.W.plainOver K CAsk = true) (saAsk : PySem.W.findIn K (.ref CAsk) "__setattr__" = some (some (.builtin "object.__setattr__"))) (mkAsk : PySem.W.makesIn K CAsk = true) (kcAsk : PySem.W.keepIn K (.ref CAsk) = true)
    (nAsk_prompt : PySem.W.findIn K (.ref CAsk) "prompt" = some none)
    (nAsk_most : PySem.W.findIn K (.ref CAsk) "most" = some none)
    (nAsk_stops : PySem.W.findIn K (.ref CAsk) "stops" = some none)
    (nAsk_tape : PySem.W.findIn K (.ref CAsk) "tape" = some none)
    (nAsk_rule : PySem.W.findIn K (.ref CAsk) "rule" = some none)
    (aCRule : PySem.W.nsIn K mainGlobals "Rule" = some (some (.ref CRule))) (pgRule : PySem.W.plainGet K CRule Str.empty = true) (hdRule : PySem.W.hasDictIn K CRule = true) (poRule : PySem.W.plainOver K CRule = true) (saRule : PySem.W.findIn K (.ref CRule) "__setattr__" = some (some (.builtin "object.__setattr__"))) (mkRule : PySem.W.makesIn K CRule = true) (kcRule : PySem.W.keepIn K (.ref CRule) = true)
    (nRule_start : PySem.W.findIn K (.ref CRule) "start" = some none)
    (nRule_steps : PySem.W.findIn K (.ref CRule) "steps" = some none)
    (ow1Rule : PySem.W.findIn K (.ref CRule) "__class__" = some (some (.builtin "object.__class__"))) (ow2Rule : PySem.W.specialIn K (.builtin "object.__class__") "__get__" = some (some (.builtin "getset_descriptor.__get__"))) (ow3Rule : PySem.W.takesIn K (.builtin "object.__class__") = some true) (ow4Rule : PySem.W.mroIn K CRule (.type "object") = some true) (ow5Rule : PySem.W.isClsIn K CRule = true) (ow6Rule : PySem.W.typeIn K (.ref CRule) = some (.type "type")) (ow7Rule : PySem.W.subIn K (.type "tuple") (.ref CRule) = some false) (ow8Rule : PySem.W.subIn K (.type "int") (.ref CRule) = some false) (ow9Rule : PySem.W.subIn K (.type "str") (.ref CRule) = some false) (ownRule : PySem.W.findIn K (.ref CRule) "__ne__" = some (some (.builtin "object.__ne__")))
    (aCServeError : PySem.W.nsIn K mainGlobals "ServeError" = some (some (.ref CServeError))) (eiServeError : PySem.W.isClsIn K CServeError = true) (etServeError : PySem.W.typeIn K (.ref CServeError) = some (.type "type")) (ebServeError : PySem.W.subIn K (.ref CServeError) (.type "BaseException") = some true) (ehServeError : PySem.W.hasDictIn K CServeError = true)
    (aCInvalidNumber : PySem.W.nsIn K mainGlobals "InvalidNumber" = some (some (.ref CInvalidNumber))) (eiInvalidNumber : PySem.W.isClsIn K CInvalidNumber = true) (etInvalidNumber : PySem.W.typeIn K (.ref CInvalidNumber) = some (.type "type")) (ebInvalidNumber : PySem.W.subIn K (.ref CInvalidNumber) (.type "BaseException") = some true) (ehInvalidNumber : PySem.W.hasDictIn K CInvalidNumber = true)
    (aCInvalidLetter : PySem.W.nsIn K mainGlobals "InvalidLetter" = some (some (.ref CInvalidLetter))) (eiInvalidLetter : PySem.W.isClsIn K CInvalidLetter = true) (etInvalidLetter : PySem.W.typeIn K (.ref CInvalidLetter) = some (.type "type")) (ebInvalidLetter : PySem.W.subIn K (.ref CInvalidLetter) (.type "BaseException") = some true) (ehInvalidLetter : PySem.W.hasDictIn K CInvalidLetter = true)
    (aCNoHouse : PySem.W.nsIn K mainGlobals "NoHouse" = some (some (.ref CNoHouse))) (eiNoHouse : PySem.W.isClsIn K CNoHouse = true) (etNoHouse : PySem.W.typeIn K (.ref CNoHouse) = some (.type "type")) (ebNoHouse : PySem.W.subIn K (.ref CNoHouse) (.type "BaseException") = some true) (ehNoHouse : PySem.W.hasDictIn K CNoHouse = true)
    (aCNoRequest : PySem.W.nsIn K mainGlobals "NoRequest" = some (some (.ref CNoRequest))) (eiNoRequest : PySem.W.isClsIn K CNoRequest = true) (etNoRequest : PySem.W.typeIn K (.ref CNoRequest) = some (.type "type")) (ebNoRequest : PySem.W.subIn K (.ref CNoRequest) (.type "BaseException") = some true) (ehNoRequest : PySem.W.hasDictIn K CNoRequest = true)
    (aCNoRoom : PySem.W.nsIn K mainGlobals "NoRoom" = some (some (.ref CNoRoom))) (eiNoRoom : PySem.W.isClsIn K CNoRoom = true) (etNoRoom : PySem.W.typeIn K (.ref CNoRoom) = some (.type "type")) (ebNoRoom : PySem.W.subIn K (.ref CNoRoom) (.type "BaseException") = some true) (ehNoRoom : PySem.W.hasDictIn K CNoRoom = true)
    (aCNotAlone : PySem.W.nsIn K mainGlobals "NotAlone" = some (some (.ref CNotAlone))) (eiNotAlone : PySem.W.isClsIn K CNotAlone = true) (etNotAlone : PySem.W.typeIn K (.ref CNotAlone) = some (.type "type")) (ebNotAlone : PySem.W.subIn K (.ref CNotAlone) (.type "BaseException") = some true) (ehNotAlone : PySem.W.hasDictIn K CNotAlone = true)
    (aCNotHeld : PySem.W.nsIn K mainGlobals "NotHeld" = some (some (.ref CNotHeld))) (eiNotHeld : PySem.W.isClsIn K CNotHeld = true) (etNotHeld : PySem.W.typeIn K (.ref CNotHeld) = some (.type "type")) (ebNotHeld : PySem.W.subIn K (.ref CNotHeld) (.type "BaseException") = some true) (ehNotHeld : PySem.W.hasDictIn K CNotHeld = true)
    (aCTooLarge : PySem.W.nsIn K mainGlobals "TooLarge" = some (some (.ref CTooLarge))) (eiTooLarge : PySem.W.isClsIn K CTooLarge = true) (etTooLarge : PySem.W.typeIn K (.ref CTooLarge) = some (.type "type")) (ebTooLarge : PySem.W.subIn K (.ref CTooLarge) (.type "BaseException") = some true) (ehTooLarge : PySem.W.hasDictIn K CTooLarge = true)
    {tKMOST_LETTERS : Tok} (aKMOST_LETTERS : PySem.W.nsIn K mainGlobals "MOST_LETTERS" = some (some (.int 30 tKMOST_LETTERS)))
    (aInvalidNumber___init__ : PySem.W.findIn K (.ref CInvalidNumber) "__init__" = some (some (.ref fInvalidNumber___init__))) (iInvalidNumber___init__ : PySem.W.isFn K (.ref fInvalidNumber___init__) = true) (lInvalidNumber___init__ : K.lookup fInvalidNumber___init__ = some ⟨ocInvalidNumber___init__, odInvalidNumber___init__, .func (PySem.W.fnOf "__init__" "InvalidNumber.__init__" (defArgs s_InvalidNumber___init__) (defBody s_InvalidNumber___init__) (defScope s_InvalidNumber___init__) .none kVInvalidNumber___init__ dcInvalidNumber___init__ pmInvalidNumber___init__ anInvalidNumber___init__ cdInvalidNumber___init__ ctInvalidNumber___init__), slInvalidNumber___init__⟩) (cInvalidNumber___init__ : PySem.W.codeIn K cdInvalidNumber___init__ "InvalidNumber.__init__" = true) (kInvalidNumber___init__ : PySem.W.keepIn K (.ref fInvalidNumber___init__) = true)
    (ais_between : PySem.W.nsIn K mainGlobals "is_between" = some (some (.ref fis_between))) (lis_between : K.lookup fis_between = some ⟨ocis_between, odis_between, .func (PySem.W.fnOf "is_between" "is_between" (defArgs s_is_between) (defBody s_is_between) (defScope s_is_between) .none kVis_between dcis_between pmis_between anis_between cdis_between ctis_between), slis_between⟩) (cis_between : PySem.W.codeIn K cdis_between "is_between" = true) (kis_between : PySem.W.keepIn K (.ref fis_between) = true)
    (agreatest : PySem.W.nsIn K mainGlobals "greatest" = some (some (.ref fgreatest))) (lgreatest : K.lookup fgreatest = some ⟨ocgreatest, odgreatest, .func (PySem.W.fnOf "greatest" "greatest" (defArgs s_greatest) (defBody s_greatest) (defScope s_greatest) .none kVgreatest dcgreatest pmgreatest angreatest cdgreatest ctgreatest), slgreatest⟩) (cgreatest : PySem.W.codeIn K cdgreatest "greatest" = true) (kgreatest : PySem.W.keepIn K (.ref fgreatest) = true)
    (aby_number : PySem.W.nsIn K mainGlobals "by_number" = some (some (.ref fby_number))) (lby_number : K.lookup fby_number = some ⟨ocby_number, odby_number, .func (PySem.W.fnOf "by_number" "by_number" (defArgs s_by_number) (defBody s_by_number) (defScope s_by_number) .none kVby_number dcby_number pmby_number anby_number cdby_number ctby_number), slby_number⟩) (cby_number : PySem.W.codeIn K cdby_number "by_number" = true) (kby_number : PySem.W.keepIn K (.ref fby_number) = true)
    (aAsk___init__ : PySem.W.findIn K (.ref CAsk) "__init__" = some (some (.ref fAsk___init__))) (iAsk___init__ : PySem.W.isFn K (.ref fAsk___init__) = true) (lAsk___init__ : K.lookup fAsk___init__ = some ⟨ocAsk___init__, odAsk___init__, .func (PySem.W.fnOf "__init__" "Ask.__init__" (defArgs s_Ask___init__) (defBody s_Ask___init__) (defScope s_Ask___init__) .none (.ref DAsk___init__) dcAsk___init__ pmAsk___init__ anAsk___init__ cdAsk___init__ ctAsk___init__), slAsk___init__⟩) (cAsk___init__ : PySem.W.codeIn K cdAsk___init__ "Ask.__init__" = true) (kAsk___init__ : PySem.W.keepIn K (.ref fAsk___init__) = true)
    {nWAsk___init___stops : Nat} (kdAsk___init___stops : PySem.W.nsIn K DAsk___init__ "stops" = some (some (.ref WAsk___init___stops))) (kwAsk___init___stops : K.lookup WAsk___init___stops = some ⟨.type "tuple", oWAsk___init___stops, .seq #[] nWAsk___init___stops, sWAsk___init___stops⟩)
    {nWAsk___init___tape : Nat} (kdAsk___init___tape : PySem.W.nsIn K DAsk___init__ "tape" = some (some (.ref WAsk___init___tape))) (kwAsk___init___tape : K.lookup WAsk___init___tape = some ⟨.type "tuple", oWAsk___init___tape, .seq #[] nWAsk___init___tape, sWAsk___init___tape⟩)
    (kdAsk___init___rule : PySem.W.nsIn K DAsk___init__ "rule" = some (some .none))
    (aAsk_let_weights : PySem.W.findIn K (.ref CAsk) "let_weights" = some (some (.ref fAsk_let_weights))) (iAsk_let_weights : PySem.W.isFn K (.ref fAsk_let_weights) = true) (lAsk_let_weights : K.lookup fAsk_let_weights = some ⟨ocAsk_let_weights, odAsk_let_weights, .func (PySem.W.fnOf "let_weights" "Ask.let_weights" (defArgs s_Ask_let_weights) (defBody s_Ask_let_weights) (defScope s_Ask_let_weights) .none kVAsk_let_weights dcAsk_let_weights pmAsk_let_weights anAsk_let_weights cdAsk_let_weights ctAsk_let_weights), slAsk_let_weights⟩) (cAsk_let_weights : PySem.W.codeIn K cdAsk_let_weights "Ask.let_weights" = true) (kAsk_let_weights : PySem.W.keepIn K (.ref fAsk_let_weights) = true)
    (aAsk_choice : PySem.W.findIn K (.ref CAsk) "choice" = some (some (.ref fAsk_choice))) (iAsk_choice : PySem.W.isFn K (.ref fAsk_choice) = true) (lAsk_choice : K.lookup fAsk_choice = some ⟨ocAsk_choice, odAsk_choice, .func (PySem.W.fnOf "choice" "Ask.choice" (defArgs s_Ask_choice) (defBody s_Ask_choice) (defScope s_Ask_choice) .none kVAsk_choice dcAsk_choice pmAsk_choice anAsk_choice cdAsk_choice ctAsk_choice), slAsk_choice⟩) (cAsk_choice : PySem.W.codeIn K cdAsk_choice "Ask.choice" = true) (kAsk_choice : PySem.W.keepIn K (.ref fAsk_choice) = true)
    (aRule___init__ : PySem.W.findIn K (.ref CRule) "__init__" = some (some (.ref fRule___init__))) (iRule___init__ : PySem.W.isFn K (.ref fRule___init__) = true) (lRule___init__ : K.lookup fRule___init__ = some ⟨ocRule___init__, odRule___init__, .func (PySem.W.fnOf "__init__" "Rule.__init__" (defArgs s_Rule___init__) (defBody s_Rule___init__) (defScope s_Rule___init__) .none kVRule___init__ dcRule___init__ pmRule___init__ anRule___init__ cdRule___init__ ctRule___init__), slRule___init__⟩) (cRule___init__ : PySem.W.codeIn K cdRule___init__ "Rule.__init__" = true) (kRule___init__ : PySem.W.keepIn K (.ref fRule___init__) = true)
    (aRule___eq__ : PySem.W.findIn K (.ref CRule) "__eq__" = some (some (.ref fRule___eq__))) (iRule___eq__ : PySem.W.isFn K (.ref fRule___eq__) = true) (lRule___eq__ : K.lookup fRule___eq__ = some ⟨ocRule___eq__, odRule___eq__, .func (PySem.W.fnOf "__eq__" "Rule.__eq__" (defArgs s_Rule___eq__) (defBody s_Rule___eq__) (defScope s_Rule___eq__) .none kVRule___eq__ dcRule___eq__ pmRule___eq__ anRule___eq__ cdRule___eq__ ctRule___eq__), slRule___eq__⟩) (cRule___eq__ : PySem.W.codeIn K cdRule___eq__ "Rule.__eq__" = true) (kRule___eq__ : PySem.W.keepIn K (.ref fRule___eq__) = true)
    (aRule_after : PySem.W.findIn K (.ref CRule) "after" = some (some (.ref fRule_after))) (iRule_after : PySem.W.isFn K (.ref fRule_after) = true) (lRule_after : K.lookup fRule_after = some ⟨ocRule_after, odRule_after, .func (PySem.W.fnOf "after" "Rule.after" (defArgs s_Rule_after) (defBody s_Rule_after) (defScope s_Rule_after) .none kVRule_after dcRule_after pmRule_after anRule_after cdRule_after ctRule_after), slRule_after⟩) (cRule_after : PySem.W.codeIn K cdRule_after "Rule.after" = true) (kRule_after : PySem.W.keepIn K (.ref fRule_after) = true)
    (aRule_lets : PySem.W.findIn K (.ref CRule) "lets" = some (some (.ref fRule_lets))) (iRule_lets : PySem.W.isFn K (.ref fRule_lets) = true) (lRule_lets : K.lookup fRule_lets = some ⟨ocRule_lets, odRule_lets, .func (PySem.W.fnOf "lets" "Rule.lets" (defArgs s_Rule_lets) (defBody s_Rule_lets) (defScope s_Rule_lets) .none kVRule_lets dcRule_lets pmRule_lets anRule_lets cdRule_lets ctRule_lets), slRule_lets⟩) (cRule_lets : PySem.W.codeIn K cdRule_lets "Rule.lets" = true) (kRule_lets : PySem.W.keepIn K (.ref fRule_lets) = true)
    (aL_numbers : PySem.W.nsIn K mainGlobals "_law_numbers" = some (some (.ref fL_numbers))) (lL_numbers : K.lookup fL_numbers = some ⟨ocL_numbers, odL_numbers, .func (PySem.W.fnOf "_law_numbers" "_law_numbers" (defArgs s_L_numbers) (defBody s_L_numbers) (defScope s_L_numbers) .none kVL_numbers dcL_numbers pmL_numbers anL_numbers cdL_numbers ctL_numbers), slL_numbers⟩) (cL_numbers : PySem.W.codeIn K cdL_numbers "_law_numbers" = true) (kL_numbers : PySem.W.keepIn K (.ref fL_numbers) = true)
    (aL_same : PySem.W.nsIn K mainGlobals "_law_same" = some (some (.ref fL_same))) (lL_same : K.lookup fL_same = some ⟨ocL_same, odL_same, .func (PySem.W.fnOf "_law_same" "_law_same" (defArgs s_L_same) (defBody s_L_same) (defScope s_L_same) .none kVL_same dcL_same pmL_same anL_same cdL_same ctL_same), slL_same⟩) (cL_same : PySem.W.codeIn K cdL_same "_law_same" = true) (kL_same : PySem.W.keepIn K (.ref fL_same) = true)
    (aL_after : PySem.W.nsIn K mainGlobals "_law_after" = some (some (.ref fL_after))) (lL_after : K.lookup fL_after = some ⟨ocL_after, odL_after, .func (PySem.W.fnOf "_law_after" "_law_after" (defArgs s_L_after) (defBody s_L_after) (defScope s_L_after) .none kVL_after dcL_after pmL_after anL_after cdL_after ctL_after), slL_after⟩) (cL_after : PySem.W.codeIn K cdL_after "_law_after" = true) (kL_after : PySem.W.keepIn K (.ref fL_after) = true)
    (aL_counted : PySem.W.nsIn K mainGlobals "_law_counted" = some (some (.ref fL_counted))) (lL_counted : K.lookup fL_counted = some ⟨ocL_counted, odL_counted, .func (PySem.W.fnOf "_law_counted" "_law_counted" (defArgs s_L_counted) (defBody s_L_counted) (defScope s_L_counted) .none kVL_counted dcL_counted pmL_counted anL_counted cdL_counted ctL_counted), slL_counted⟩) (cL_counted : PySem.W.codeIn K cdL_counted "_law_counted" = true) (kL_counted : PySem.W.keepIn K (.ref fL_counted) = true)
    (aL_choice : PySem.W.nsIn K mainGlobals "_law_choice" = some (some (.ref fL_choice))) (lL_choice : K.lookup fL_choice = some ⟨ocL_choice, odL_choice, .func (PySem.W.fnOf "_law_choice" "_law_choice" (defArgs s_L_choice) (defBody s_L_choice) (defScope s_L_choice) .none kVL_choice dcL_choice pmL_choice anL_choice cdL_choice ctL_choice), slL_choice⟩) (cL_choice : PySem.W.codeIn K cdL_choice "_law_choice" = true) (kL_choice : PySem.W.keepIn K (.ref fL_choice) = true)
    (aL_rule : PySem.W.nsIn K mainGlobals "_law_rule" = some (some (.ref fL_rule))) (lL_rule : K.lookup fL_rule = some ⟨ocL_rule, odL_rule, .func (PySem.W.fnOf "_law_rule" "_law_rule" (defArgs s_L_rule) (defBody s_L_rule) (defScope s_L_rule) .none kVL_rule dcL_rule pmL_rule anL_rule cdL_rule ctL_rule), slL_rule⟩) (cL_rule : PySem.W.codeIn K cdL_rule "_law_rule" = true) (kL_rule : PySem.W.keepIn K (.ref fL_rule) = true)
    (aL_stops : PySem.W.nsIn K mainGlobals "_law_stops" = some (some (.ref fL_stops))) (lL_stops : K.lookup fL_stops = some ⟨ocL_stops, odL_stops, .func (PySem.W.fnOf "_law_stops" "_law_stops" (defArgs s_L_stops) (defBody s_L_stops) (defScope s_L_stops) .none kVL_stops dcL_stops pmL_stops anL_stops cdL_stops ctL_stops), slL_stops⟩) (cL_stops : PySem.W.codeIn K cdL_stops "_law_stops" = true) (kL_stops : PySem.W.keepIn K (.ref fL_stops) = true)
    (aL_tape : PySem.W.nsIn K mainGlobals "_law_tape" = some (some (.ref fL_tape))) (lL_tape : K.lookup fL_tape = some ⟨ocL_tape, odL_tape, .func (PySem.W.fnOf "_law_tape" "_law_tape" (defArgs s_L_tape) (defBody s_L_tape) (defScope s_L_tape) .none kVL_tape dcL_tape pmL_tape anL_tape cdL_tape ctL_tape), slL_tape⟩) (cL_tape : PySem.W.codeIn K cdL_tape "_law_tape" = true) (kL_tape : PySem.W.keepIn K (.ref fL_tape) = true)
    (aL_made : PySem.W.nsIn K mainGlobals "_law_made" = some (some (.ref fL_made))) (lL_made : K.lookup fL_made = some ⟨ocL_made, odL_made, .func (PySem.W.fnOf "_law_made" "_law_made" (defArgs s_L_made) (defBody s_L_made) (defScope s_L_made) .none kVL_made dcL_made pmL_made anL_made cdL_made ctL_made), slL_made⟩) (cL_made : PySem.W.codeIn K cdL_made "_law_made" = true) (kL_made : PySem.W.keepIn K (.ref fL_made) = true)
    (aL_refuses : PySem.W.nsIn K mainGlobals "_law_refuses" = some (some (.ref fL_refuses))) (lL_refuses : K.lookup fL_refuses = some ⟨ocL_refuses, odL_refuses, .func (PySem.W.fnOf "_law_refuses" "_law_refuses" (defArgs s_L_refuses) (defBody s_L_refuses) (defScope s_L_refuses) .none kVL_refuses dcL_refuses pmL_refuses anL_refuses cdL_refuses ctL_refuses), slL_refuses⟩) (cL_refuses : PySem.W.codeIn K cdL_refuses "_law_refuses" = true) (kL_refuses : PySem.W.keepIn K (.ref fL_refuses) = true)
    (aL_chosen : PySem.W.nsIn K mainGlobals "_law_chosen" = some (some (.ref fL_chosen))) (lL_chosen : K.lookup fL_chosen = some ⟨ocL_chosen, odL_chosen, .func (PySem.W.fnOf "_law_chosen" "_law_chosen" (defArgs s_L_chosen) (defBody s_L_chosen) (defScope s_L_chosen) .none kVL_chosen dcL_chosen pmL_chosen anL_chosen cdL_chosen ctL_chosen), slL_chosen⟩) (cL_chosen : PySem.W.codeIn K cdL_chosen "_law_chosen" = true) (kL_chosen : PySem.W.keepIn K (.ref fL_chosen) = true)
    (alaw : PySem.W.nsIn K mainGlobals "law" = some (some (.ref flaw))) (llaw : K.lookup flaw = some ⟨oclaw, odlaw, .func (PySem.W.fnOf "law" "law" (defArgs s_law) (defBody s_law) (defScope s_law) .none kVlaw dclaw pmlaw anlaw cdlaw ctlaw), sllaw⟩) (claw : PySem.W.codeIn K cdlaw "law" = true) (klaw : PySem.W.keepIn K (.ref flaw) = true)
    (xlInvalidNumber : K.lookup CInvalidNumber = some (PySem.excClassObj nmInvalidNumber qnInvalidNumber CInvalidNumber NInvalidNumber bsInvalidNumber [.ref CServeError, .type "ValueError", .type "Exception", .type "BaseException", .type "object"] true snInvalidNumber subInvalidNumber abInvalidNumber colInvalidNumber ddInvalidNumber m0InvalidNumber m1InvalidNumber m2InvalidNumber m3InvalidNumber m5InvalidNumber "ValueError.__new__")) (xaInvalidNumber : PySem.W.findIn K (.ref CInvalidNumber) "__setattr__" = some (some (.builtin "object.__setattr__"))) (xkInvalidNumber : PySem.W.keepIn K (.ref CInvalidNumber) = true) (xtInvalidNumber : PySem.W.typeIn K (.ref fInvalidNumber___init__) = some (.type "function")) (xnInvalidNumber : PySem.W.findIn K (.ref CInvalidNumber) "number" = some none) (xgInvalidNumber : PySem.W.findIn K (.ref CInvalidNumber) "__getattribute__" = some (some (.builtin "BaseException.__getattribute__"))) (xhInvalidNumber : PySem.W.findIn K (.ref CInvalidNumber) "__getattr__" = some none) (xcInvalidNumber : PySem.W.findIn K (.ref CInvalidNumber) "__class__" = some (some (.builtin "object.__class__"))) (xsInvalidNumber : PySem.W.specialIn K (.builtin "object.__class__") "__get__" = some (some (.builtin "getset_descriptor.__get__"))) (xuInvalidNumber : PySem.W.takesIn K (.builtin "object.__class__") = some true) (xmInvalidNumber : PySem.W.mroIn K CInvalidNumber (.type "object") = some true) (xvInvalidNumber : PySem.W.subIn K (.ref CInvalidNumber) (.type "ValueError") = some true)
    (suInvalidNumber_ServeError : PySem.W.subIn K (.ref CInvalidNumber) (.ref CServeError) = some true)
    (suInvalidNumber_InvalidNumber : PySem.W.subIn K (.ref CInvalidNumber) (.ref CInvalidNumber) = some true)
    (suInvalidNumber_InvalidLetter : PySem.W.subIn K (.ref CInvalidNumber) (.ref CInvalidLetter) = some false)
    (suInvalidNumber_NoHouse : PySem.W.subIn K (.ref CInvalidNumber) (.ref CNoHouse) = some false)
    (suInvalidNumber_NoRequest : PySem.W.subIn K (.ref CInvalidNumber) (.ref CNoRequest) = some false)
    (suInvalidNumber_NoRoom : PySem.W.subIn K (.ref CInvalidNumber) (.ref CNoRoom) = some false)
    (suInvalidNumber_NotAlone : PySem.W.subIn K (.ref CInvalidNumber) (.ref CNotAlone) = some false)
    (suInvalidNumber_NotHeld : PySem.W.subIn K (.ref CInvalidNumber) (.ref CNotHeld) = some false)
    (suInvalidNumber_TooLarge : PySem.W.subIn K (.ref CInvalidNumber) (.ref CTooLarge) = some false)
    (zValueError : PySem.W.nsIn K mainGlobals "ValueError" = some none)
    (zabs : PySem.W.nsIn K mainGlobals "abs" = some none)
    (zbool : PySem.W.nsIn K mainGlobals "bool" = some none)
    (zenumerate : PySem.W.nsIn K mainGlobals "enumerate" = some none)
    (zint : PySem.W.nsIn K mainGlobals "int" = some none)
    (zisinstance : PySem.W.nsIn K mainGlobals "isinstance" = some none)
    (zlen : PySem.W.nsIn K mainGlobals "len" = some none)
    (zlist : PySem.W.nsIn K mainGlobals "list" = some none)
    (zmax : PySem.W.nsIn K mainGlobals "max" = some none)
    (zmin : PySem.W.nsIn K mainGlobals "min" = some none)
    (zrange : PySem.W.nsIn K mainGlobals "range" = some none)
    (zrepr : PySem.W.nsIn K mainGlobals "repr" = some none)
    (zstr : PySem.W.nsIn K mainGlobals "str" = some none)
    (zsum : PySem.W.nsIn K mainGlobals "sum" = some none)
    (ztuple : PySem.W.nsIn K mainGlobals "tuple" = some none)
    : ∃ fd : FuncData, (∀ (s : Shared) (v : Value), BindsTo s fd ⟨[v], []⟩ [("_law_script", v)]) ∧ ∀ base : Heap, K.In base → base.Ns mainGlobals mg → FnG l.prog w K mg base CX0 6 fa fd ["_law_script"] (sp_law K) := by
  have e := hfa.symm.trans (PySem.W.mg_of X G alaw)
  cases e
  have FInvalidNumber___init__ := fun_mk (st := s_InvalidNumber___init__) lInvalidNumber___init__ cInvalidNumber___init__ kInvalidNumber___init__
  have bInvalidNumber___init__ := FInvalidNumber___init__.binds (ps := ["self", "number"]) fun _ _ _ _ _ _ us hl => match us, hl with | [_, _], _ => rfl
  have Fis_between := fun_mk (st := s_is_between) lis_between cis_between kis_between
  have bis_between := Fis_between.binds (ps := ["value", "least", "most"]) fun _ _ _ _ _ _ us hl => match us, hl with | [_, _, _], _ => rfl
  have Fgreatest := fun_mk (st := s_greatest) lgreatest cgreatest kgreatest
  have bgreatest := Fgreatest.binds (ps := ["weights"]) fun _ _ _ _ _ _ us hl => match us, hl with | [_], _ => rfl
  have Fby_number := fun_mk (st := s_by_number) lby_number cby_number kby_number
  have bby_number := Fby_number.binds (ps := ["weights", "number"]) fun _ _ _ _ _ _ us hl => match us, hl with | [_, _], _ => rfl
  have bkAsk___init__ := kbind_none (K := K) (x := "__init__") (qual := "Ask.__init__") (st := s_Ask___init__) (D := DAsk___init__) (doc := dcAsk___init__) (pm := pmAsk___init__) (cdv := cdAsk___init__) (ct := ctAsk___init__) (an := anAsk___init__) (ps := ["self", "prompt", "most", "stops", "tape", "rule"]) 3 [("stops", Value.ref WAsk___init___stops), ("tape", Value.ref WAsk___init___tape), ("rule", Value.none)] rfl (List.forall_mem_cons.mpr ⟨kdAsk___init___stops, (List.forall_mem_cons.mpr ⟨kdAsk___init___tape, (List.forall_mem_cons.mpr ⟨kdAsk___init___rule, (List.forall_mem_nil _)⟩)⟩)⟩) fun us hl => match us, hl with | [_, _, _], _ => ⟨_, _, _, _, _, _, rfl, rfl, ⟨_, _, _, _, _, _, rfl, rfl, ⟨_, _, _, _, _, _, rfl, rfl, rfl⟩⟩⟩
  have kbAsk___init___stops := kbind_sub (K := K) (x := "__init__") (qual := "Ask.__init__") (st := s_Ask___init__) (D := DAsk___init__) (doc := dcAsk___init__) (pm := pmAsk___init__) (cdv := cdAsk___init__) (ct := ctAsk___init__) (an := anAsk___init__) (ps := ["self", "prompt", "most", "stops", "tape", "rule"]) 3 ["stops"] [("tape", Value.ref WAsk___init___tape), ("rule", Value.none)] (fun us ws => us ++ ws ++ [Value.ref WAsk___init___tape, Value.none]) (fun vs zs => vs ++ zs ++ [V.ref WAsk___init___tape, V.non]) (List.forall_mem_cons.mpr ⟨kdAsk___init___tape, (List.forall_mem_cons.mpr ⟨kdAsk___init___rule, (List.forall_mem_nil _)⟩)⟩) (fun r1 r2 => ((r1.append r2).append (show Vals [V.ref WAsk___init___tape, V.non] [Value.ref WAsk___init___tape, Value.none] from .cons rfl (.cons rfl (.nil))))) fun us ws hl hk => match us, hl, ws, hk with | [_, _, _], _, [_], _ => ⟨_, _, _, _, _, _, rfl, rfl, ⟨_, _, _, _, _, _, rfl, rfl, rfl⟩⟩
  have kbAsk___init___tape := kbind_sub (K := K) (x := "__init__") (qual := "Ask.__init__") (st := s_Ask___init__) (D := DAsk___init__) (doc := dcAsk___init__) (pm := pmAsk___init__) (cdv := cdAsk___init__) (ct := ctAsk___init__) (an := anAsk___init__) (ps := ["self", "prompt", "most", "stops", "tape", "rule"]) 3 ["tape"] [("stops", Value.ref WAsk___init___stops), ("rule", Value.none)] (fun us ws => us ++ [Value.ref WAsk___init___stops] ++ ws ++ [Value.none]) (fun vs zs => vs ++ [V.ref WAsk___init___stops] ++ zs ++ [V.non]) (List.forall_mem_cons.mpr ⟨kdAsk___init___stops, (List.forall_mem_cons.mpr ⟨kdAsk___init___rule, (List.forall_mem_nil _)⟩)⟩) (fun r1 r2 => (((r1.append (show Vals [V.ref WAsk___init___stops] [Value.ref WAsk___init___stops] from .cons rfl (.nil))).append r2).append (show Vals [V.non] [Value.none] from .cons rfl (.nil)))) fun us ws hl hk => match us, hl, ws, hk with | [_, _, _], _, [_], _ => ⟨_, _, _, _, _, _, rfl, rfl, ⟨_, _, _, _, _, _, rfl, rfl, rfl⟩⟩
  have kbAsk___init___stops_tape_rule := kbind_sub (K := K) (x := "__init__") (qual := "Ask.__init__") (st := s_Ask___init__) (D := DAsk___init__) (doc := dcAsk___init__) (pm := pmAsk___init__) (cdv := cdAsk___init__) (ct := ctAsk___init__) (an := anAsk___init__) (ps := ["self", "prompt", "most", "stops", "tape", "rule"]) 3 ["stops", "tape", "rule"] [] (fun us ws => us ++ ws) (fun vs zs => vs ++ zs) (List.forall_mem_nil _) (fun r1 r2 => (r1.append r2)) fun us ws hl hk => match us, hl, ws, hk with | [_, _, _], _, [_, _, _], _ => rfl
  have FAsk___init__ := fun_mk (st := s_Ask___init__) lAsk___init__ cAsk___init__ kAsk___init__
  have FAsk_let_weights := fun_mk (st := s_Ask_let_weights) lAsk_let_weights cAsk_let_weights kAsk_let_weights
  have bAsk_let_weights := FAsk_let_weights.binds (ps := ["self", "weights", "text"]) fun _ _ _ _ _ _ us hl => match us, hl with | [_, _, _], _ => rfl
  have FAsk_choice := fun_mk (st := s_Ask_choice) lAsk_choice cAsk_choice kAsk_choice
  have bAsk_choice := FAsk_choice.binds (ps := ["self", "weights", "text"]) fun _ _ _ _ _ _ us hl => match us, hl with | [_, _, _], _ => rfl
  have FRule___init__ := fun_mk (st := s_Rule___init__) lRule___init__ cRule___init__ kRule___init__
  have bRule___init__ := FRule___init__.binds (ps := ["self", "start", "steps"]) fun _ _ _ _ _ _ us hl => match us, hl with | [_, _, _], _ => rfl
  have FRule___eq__ := fun_mk (st := s_Rule___eq__) lRule___eq__ cRule___eq__ kRule___eq__
  have bRule___eq__ := FRule___eq__.binds (ps := ["self", "other"]) fun _ _ _ _ _ _ us hl => match us, hl with | [_, _], _ => rfl
  have FRule_after := fun_mk (st := s_Rule_after) lRule_after cRule_after kRule_after
  have bRule_after := FRule_after.binds (ps := ["self", "text"]) fun _ _ _ _ _ _ us hl => match us, hl with | [_, _], _ => rfl
  have FRule_lets := fun_mk (st := s_Rule_lets) lRule_lets cRule_lets kRule_lets
  have bRule_lets := FRule_lets.binds (ps := ["self", "text", "letter"]) fun _ _ _ _ _ _ us hl => match us, hl with | [_, _, _], _ => rfl
  have FL_numbers := fun_mk (st := s_L_numbers) lL_numbers cL_numbers kL_numbers
  have bL_numbers := FL_numbers.binds (ps := ["_law_cell", "_law_at", "_law_many"]) fun _ _ _ _ _ _ us hl => match us, hl with | [_, _, _], _ => rfl
  have FL_same := fun_mk (st := s_L_same) lL_same cL_same kL_same
  have bL_same := FL_same.binds (ps := ["_law_actual", "_law_expected"]) fun _ _ _ _ _ _ us hl => match us, hl with | [_, _], _ => rfl
  have FL_after := fun_mk (st := s_L_after) lL_after cL_after kL_after
  have bL_after := FL_after.binds (ps := ["_law_rule_here", "_law_text"]) fun _ _ _ _ _ _ us hl => match us, hl with | [_, _], _ => rfl
  have FL_counted := fun_mk (st := s_L_counted) lL_counted cL_counted kL_counted
  have bL_counted := FL_counted.binds (ps := ["_law_weights", "_law_rule_here", "_law_text"]) fun _ _ _ _ _ _ us hl => match us, hl with | [_, _, _], _ => rfl
  have FL_choice := fun_mk (st := s_L_choice) lL_choice cL_choice kL_choice
  have bL_choice := FL_choice.binds (ps := ["_law_weights", "_law_rule_here", "_law_tape_here", "_law_text"]) fun _ _ _ _ _ _ us hl => match us, hl with | [_, _, _, _], _ => rfl
  have FL_rule := fun_mk (st := s_L_rule) lL_rule cL_rule kL_rule
  have bL_rule := FL_rule.binds (ps := ["_law_numbers_here", "_law_k", "_law_letters"]) fun _ _ _ _ _ _ us hl => match us, hl with | [_, _, _], _ => rfl
  have FL_stops := fun_mk (st := s_L_stops) lL_stops cL_stops kL_stops
  have bL_stops := FL_stops.binds (ps := ["_law_numbers_here", "_law_k", "_law_letters"]) fun _ _ _ _ _ _ us hl => match us, hl with | [_, _, _], _ => rfl
  have FL_tape := fun_mk (st := s_L_tape) lL_tape cL_tape kL_tape
  have bL_tape := FL_tape.binds (ps := ["_law_numbers_here", "_law_k"]) fun _ _ _ _ _ _ us hl => match us, hl with | [_, _], _ => rfl
  have FL_made := fun_mk (st := s_L_made) lL_made cL_made kL_made
  have bL_made := FL_made.binds (ps := ["_law_prompt", "_law_most", "_law_stops_here", "_law_tape_here", "_law_rule_here", "_law_short"]) fun _ _ _ _ _ _ us hl => match us, hl with | [_, _, _, _, _, _], _ => rfl
  have FL_refuses := fun_mk (st := s_L_refuses) lL_refuses cL_refuses kL_refuses
  have bL_refuses := FL_refuses.binds (ps := ["_law_prompt", "_law_most"]) fun _ _ _ _ _ _ us hl => match us, hl with | [_, _], _ => rfl
  have FL_chosen := fun_mk (st := s_L_chosen) lL_chosen cL_chosen kL_chosen
  have bL_chosen := FL_chosen.binds (ps := ["_law_ask", "_law_numbers_here", "_law_letters", "_law_rule_here", "_law_tape_here"]) fun _ _ _ _ _ _ us hl => match us, hl with | [_, _, _, _, _], _ => rfl
  have Flaw := fun_mk (st := s_law) llaw claw klaw
  have blaw := Flaw.binds (ps := ["_law_script"]) fun _ _ _ _ _ _ us hl => match us, hl with | [_], _ => rfl
  let T : Txt K mg := { c_Ask := _, C_Ask := ⟨pgAsk, hdAsk, poAsk, saAsk⟩, gc_Ask := PySem.W.mg_of X G aCAsk, n_Ask_prompt := nAsk_prompt, n_Ask_most := nAsk_most, n_Ask_stops := nAsk_stops, n_Ask_tape := nAsk_tape, n_Ask_rule := nAsk_rule, c_Rule := _, C_Rule := ⟨pgRule, hdRule, poRule, saRule⟩, gc_Rule := PySem.W.mg_of X G aCRule, n_Rule_start := nRule_start, n_Rule_steps := nRule_steps, o_Rule := ⟨ow1Rule, ow2Rule, ow3Rule, ow4Rule, ow5Rule, ow6Rule, ow7Rule, ow8Rule, ow9Rule⟩, c_ServeError := _, gc_ServeError := PySem.W.mg_of X G aCServeError, er_ServeError := ⟨eiServeError, etServeError, ebServeError, ehServeError⟩, c_InvalidNumber := _, gc_InvalidNumber := PySem.W.mg_of X G aCInvalidNumber, er_InvalidNumber := ⟨eiInvalidNumber, etInvalidNumber, ebInvalidNumber, ehInvalidNumber⟩, c_InvalidLetter := _, gc_InvalidLetter := PySem.W.mg_of X G aCInvalidLetter, er_InvalidLetter := ⟨eiInvalidLetter, etInvalidLetter, ebInvalidLetter, ehInvalidLetter⟩, c_NoHouse := _, gc_NoHouse := PySem.W.mg_of X G aCNoHouse, er_NoHouse := ⟨eiNoHouse, etNoHouse, ebNoHouse, ehNoHouse⟩, c_NoRequest := _, gc_NoRequest := PySem.W.mg_of X G aCNoRequest, er_NoRequest := ⟨eiNoRequest, etNoRequest, ebNoRequest, ehNoRequest⟩, c_NoRoom := _, gc_NoRoom := PySem.W.mg_of X G aCNoRoom, er_NoRoom := ⟨eiNoRoom, etNoRoom, ebNoRoom, ehNoRoom⟩, c_NotAlone := _, gc_NotAlone := PySem.W.mg_of X G aCNotAlone, er_NotAlone := ⟨eiNotAlone, etNotAlone, ebNotAlone, ehNotAlone⟩, c_NotHeld := _, gc_NotHeld := PySem.W.mg_of X G aCNotHeld, er_NotHeld := ⟨eiNotHeld, etNotHeld, ebNotHeld, ehNotHeld⟩, c_TooLarge := _, gc_TooLarge := PySem.W.mg_of X G aCTooLarge, er_TooLarge := ⟨eiTooLarge, etTooLarge, ebTooLarge, ehTooLarge⟩, tk_MOST_LETTERS := _, gk_MOST_LETTERS := PySem.W.mg_of X G aKMOST_LETTERS, a_InvalidNumber___init__ := _, d_InvalidNumber___init__ := _, F_InvalidNumber___init__ := FInvalidNumber___init__, b_InvalidNumber___init__ := bInvalidNumber___init__, a_is_between := _, d_is_between := _, F_is_between := Fis_between, b_is_between := bis_between, g_is_between := PySem.W.mg_of X G ais_between, a_greatest := _, d_greatest := _, F_greatest := Fgreatest, b_greatest := bgreatest, g_greatest := PySem.W.mg_of X G agreatest, a_by_number := _, d_by_number := _, F_by_number := Fby_number, b_by_number := bby_number, g_by_number := PySem.W.mg_of X G aby_number, w_Ask___init___stops := _, wt_Ask___init___stops := fun _ => .inr ⟨_, #[], nWAsk___init___stops, kwAsk___init___stops, rfl, rfl, Nat.zero_le _, .nil⟩, w_Ask___init___tape := _, wt_Ask___init___tape := fun _ => .inr ⟨_, #[], nWAsk___init___tape, kwAsk___init___tape, rfl, rfl, Nat.zero_le _, .nil⟩, bk_Ask___init__ := bkAsk___init__, kb_Ask___init___stops := kbAsk___init___stops, kb_Ask___init___tape := kbAsk___init___tape, kb_Ask___init___stops_tape_rule := kbAsk___init___stops_tape_rule, a_Ask___init__ := _, d_Ask___init__ := _, F_Ask___init__ := FAsk___init__, M_Ask := ⟨mkAsk, aAsk___init__, iAsk___init__, kcAsk⟩, a_Ask_let_weights := _, d_Ask_let_weights := _, F_Ask_let_weights := FAsk_let_weights, b_Ask_let_weights := bAsk_let_weights, m_Ask_let_weights := ⟨aAsk_let_weights, iAsk_let_weights, kAsk_let_weights⟩, a_Ask_choice := _, d_Ask_choice := _, F_Ask_choice := FAsk_choice, b_Ask_choice := bAsk_choice, m_Ask_choice := ⟨aAsk_choice, iAsk_choice, kAsk_choice⟩, a_Rule___init__ := _, d_Rule___init__ := _, F_Rule___init__ := FRule___init__, b_Rule___init__ := bRule___init__, M_Rule := ⟨mkRule, aRule___init__, iRule___init__, kcRule⟩, a_Rule___eq__ := _, d_Rule___eq__ := _, F_Rule___eq__ := FRule___eq__, b_Rule___eq__ := bRule___eq__, m_Rule___eq__ := ⟨aRule___eq__, iRule___eq__, kRule___eq__⟩, e_Rule := ⟨aRule___eq__, iRule___eq__, ownRule, ow4Rule⟩, a_Rule_after := _, d_Rule_after := _, F_Rule_after := FRule_after, b_Rule_after := bRule_after, m_Rule_after := ⟨aRule_after, iRule_after, kRule_after⟩, a_Rule_lets := _, d_Rule_lets := _, F_Rule_lets := FRule_lets, b_Rule_lets := bRule_lets, m_Rule_lets := ⟨aRule_lets, iRule_lets, kRule_lets⟩, a_L_numbers := _, d_L_numbers := _, F_L_numbers := FL_numbers, b_L_numbers := bL_numbers, g_L_numbers := PySem.W.mg_of X G aL_numbers, a_L_same := _, d_L_same := _, F_L_same := FL_same, b_L_same := bL_same, g_L_same := PySem.W.mg_of X G aL_same, a_L_after := _, d_L_after := _, F_L_after := FL_after, b_L_after := bL_after, g_L_after := PySem.W.mg_of X G aL_after, a_L_counted := _, d_L_counted := _, F_L_counted := FL_counted, b_L_counted := bL_counted, g_L_counted := PySem.W.mg_of X G aL_counted, a_L_choice := _, d_L_choice := _, F_L_choice := FL_choice, b_L_choice := bL_choice, g_L_choice := PySem.W.mg_of X G aL_choice, a_L_rule := _, d_L_rule := _, F_L_rule := FL_rule, b_L_rule := bL_rule, g_L_rule := PySem.W.mg_of X G aL_rule, a_L_stops := _, d_L_stops := _, F_L_stops := FL_stops, b_L_stops := bL_stops, g_L_stops := PySem.W.mg_of X G aL_stops, a_L_tape := _, d_L_tape := _, F_L_tape := FL_tape, b_L_tape := bL_tape, g_L_tape := PySem.W.mg_of X G aL_tape, a_L_made := _, d_L_made := _, F_L_made := FL_made, b_L_made := bL_made, g_L_made := PySem.W.mg_of X G aL_made, a_L_refuses := _, d_L_refuses := _, F_L_refuses := FL_refuses, b_L_refuses := bL_refuses, g_L_refuses := PySem.W.mg_of X G aL_refuses, a_L_chosen := _, d_L_chosen := _, F_L_chosen := FL_chosen, b_L_chosen := bL_chosen, g_L_chosen := PySem.W.mg_of X G aL_chosen, a_law := _, d_law := _, F_law := Flaw, b_law := blaw, g_law := PySem.W.mg_of X G alaw, ox_InvalidNumber := ⟨⟨_, _, _, _, _, _, _, _, _, _, _, _, _, _, _, xlInvalidNumber, rfl⟩, xaInvalidNumber, ebInvalidNumber, etInvalidNumber, xkInvalidNumber⟩, ic_InvalidNumber := aInvalidNumber___init__, ti_InvalidNumber := xtInvalidNumber, nf_InvalidNumber := xnInvalidNumber, xf_InvalidNumber := ⟨xgInvalidNumber, xhInvalidNumber, ebInvalidNumber, ehInvalidNumber⟩, ec_InvalidNumber := ⟨xgInvalidNumber, xhInvalidNumber, ebInvalidNumber, ehInvalidNumber, xcInvalidNumber, xsInvalidNumber, xuInvalidNumber, xmInvalidNumber⟩, sv_InvalidNumber := xvInvalidNumber, sub_InvalidNumber_ServeError := suInvalidNumber_ServeError, sub_InvalidNumber_InvalidNumber := suInvalidNumber_InvalidNumber, sub_InvalidNumber_InvalidLetter := suInvalidNumber_InvalidLetter, sub_InvalidNumber_NoHouse := suInvalidNumber_NoHouse, sub_InvalidNumber_NoRequest := suInvalidNumber_NoRequest, sub_InvalidNumber_NoRoom := suInvalidNumber_NoRoom, sub_InvalidNumber_NotAlone := suInvalidNumber_NotAlone, sub_InvalidNumber_NotHeld := suInvalidNumber_NotHeld, sub_InvalidNumber_TooLarge := suInvalidNumber_TooLarge, z_ValueError := PySem.W.mg_none_of X G zValueError, z_abs := PySem.W.mg_none_of X G zabs, z_bool := PySem.W.mg_none_of X G zbool, z_enumerate := PySem.W.mg_none_of X G zenumerate, z_int := PySem.W.mg_none_of X G zint, z_isinstance := PySem.W.mg_none_of X G zisinstance, z_len := PySem.W.mg_none_of X G zlen, z_list := PySem.W.mg_none_of X G zlist, z_max := PySem.W.mg_none_of X G zmax, z_min := PySem.W.mg_none_of X G zmin, z_range := PySem.W.mg_none_of X G zrange, z_repr := PySem.W.mg_none_of X G zrepr, z_str := PySem.W.mg_none_of X G zstr, z_sum := PySem.W.mg_none_of X G zsum, z_tuple := PySem.W.mg_none_of X G ztuple }
  exact ⟨_, fun s v => .of_eq rfl, fun base _ _ => ok_law (P := l.prog) (w := w) (base := base) T⟩
theorem walk {l : PySem.W.OpenLaw} {q : Program} {loose : List Str} {XP : (Str → Option Value) → Heap → Prop} {YP : World → Heap → Prop} {d : DefRec} {K : Params → PySem.W.Frag} (hn : l.most = some 63) (hdf : d.params.defaults = [])
    (hY : ∀ (w : World) (h : Heap), YP w h → (K w.params).In h)
    (F : ∀ (w : World) (mg : Str → Option Value) (fa : Addr) (h : Heap), (K w.params).In h → h.Ns mainGlobals mg → mg d.name = some (.ref fa) →
      ∃ fd : FuncData, (∀ (s : Shared) (u : Value), BindsTo s fd ⟨[u], []⟩ [("_law_script", u)]) ∧ ∀ base : Heap, (K w.params).In base → base.Ns mainGlobals mg → FnG l.prog w (K w.params) mg base CX0 6 fa fd ["_law_script"] (sp_law (K w.params))) :
    PySem.W.WalkO q loose XP YP l.row.toRowW d [] (fun f vs => PySem.call f vs) :=
  L2.walk_ofG (n := 63) (k := 6) (x := "_law_script") (CX := fun _ => CX0) (sp := fun w => sp_law (K w.params)) hn (by decide) hdf ⟨rfl, by decide, by decide⟩ hY F (fun _ _ a ns hl _ hS => ⟨a, ns, rfl, hS, hl, fun _ => rfl⟩) fun _ _ _ _ _ z => z
end My

open PySem PySem.W PyProof.Rows
set_option maxRecDepth 100000 in
set_option maxHeartbeats 0 in
theorem PySem.Challenge.cw_servedalone_k05_asks_and_choices_holds : PySem.Challenge.rw_servedalone_k05_asks_and_choices.Holds := by
  w_on; o_law; k_head; (case hw => w_witness2)
  k_fill
  refine My.walk (l := PySem.Challenge.rw_servedalone_k05_asks_and_choices) rfl rfl (fun w h Y => PySem.W.kIn_of Y) ?F
  case F =>
    intro w mg fa h KX G hmg
    refine' My.all_mk KX G hmg ?aCAsk ?pgAsk ?hdAsk ?poAsk ?saAsk ?mkAsk ?kcAsk ?nAsk_prompt ?nAsk_most ?nAsk_stops ?nAsk_tape ?nAsk_rule ?aCRule ?pgRule ?hdRule ?poRule ?saRule ?mkRule ?kcRule ?nRule_start ?nRule_steps ?ow1Rule ?ow2Rule ?ow3Rule ?ow4Rule ?ow5Rule ?ow6Rule ?ow7Rule ?ow8Rule ?ow9Rule ?ownRule ?aCServeError ?eiServeError ?etServeError ?ebServeError ?ehServeError ?aCInvalidNumber ?eiInvalidNumber ?etInvalidNumber ?ebInvalidNumber ?ehInvalidNumber ?aCInvalidLetter ?eiInvalidLetter ?etInvalidLetter ?ebInvalidLetter ?ehInvalidLetter ?aCNoHouse ?eiNoHouse ?etNoHouse ?ebNoHouse ?ehNoHouse ?aCNoRequest ?eiNoRequest ?etNoRequest ?ebNoRequest ?ehNoRequest ?aCNoRoom ?eiNoRoom ?etNoRoom ?ebNoRoom ?ehNoRoom ?aCNotAlone ?eiNotAlone ?etNotAlone ?ebNotAlone ?ehNotAlone ?aCNotHeld ?eiNotHeld ?etNotHeld ?ebNotHeld ?ehNotHeld ?aCTooLarge ?eiTooLarge ?etTooLarge ?ebTooLarge ?ehTooLarge ?aKMOST_LETTERS ?aInvalidNumber___init__ ?iInvalidNumber___init__ ?lInvalidNumber___init__ ?cInvalidNumber___init__ ?kInvalidNumber___init__ ?ais_between ?lis_between ?cis_between ?kis_between ?agreatest ?lgreatest ?cgreatest ?kgreatest ?aby_number ?lby_number ?cby_number ?kby_number ?aAsk___init__ ?iAsk___init__ ?lAsk___init__ ?cAsk___init__ ?kAsk___init__ ?kdAsk___init___stops ?kwAsk___init___stops ?kdAsk___init___tape ?kwAsk___init___tape ?kdAsk___init___rule ?aAsk_let_weights ?iAsk_let_weights ?lAsk_let_weights ?cAsk_let_weights ?kAsk_let_weights ?aAsk_choice ?iAsk_choice ?lAsk_choice ?cAsk_choice ?kAsk_choice ?aRule___init__ ?iRule___init__ ?lRule___init__ ?cRule___init__ ?kRule___init__ ?aRule___eq__ ?iRule___eq__ ?lRule___eq__ ?cRule___eq__ ?kRule___eq__ ?aRule_after ?iRule_after ?lRule_after ?cRule_after ?kRule_after ?aRule_lets ?iRule_lets ?lRule_lets ?cRule_lets ?kRule_lets ?aL_numbers ?lL_numbers ?cL_numbers ?kL_numbers ?aL_same ?lL_same ?cL_same ?kL_same ?aL_after ?lL_after ?cL_after ?kL_after ?aL_counted ?lL_counted ?cL_counted ?kL_counted ?aL_choice ?lL_choice ?cL_choice ?kL_choice ?aL_rule ?lL_rule ?cL_rule ?kL_rule ?aL_stops ?lL_stops ?cL_stops ?kL_stops ?aL_tape ?lL_tape ?cL_tape ?kL_tape ?aL_made ?lL_made ?cL_made ?kL_made ?aL_refuses ?lL_refuses ?cL_refuses ?kL_refuses ?aL_chosen ?lL_chosen ?cL_chosen ?kL_chosen ?alaw ?llaw ?claw ?klaw ?xlInvalidNumber ?xaInvalidNumber ?xkInvalidNumber ?xtInvalidNumber ?xnInvalidNumber ?xgInvalidNumber ?xhInvalidNumber ?xcInvalidNumber ?xsInvalidNumber ?xuInvalidNumber ?xmInvalidNumber ?xvInvalidNumber ?suInvalidNumber_ServeError ?suInvalidNumber_InvalidNumber ?suInvalidNumber_InvalidLetter ?suInvalidNumber_NoHouse ?suInvalidNumber_NoRequest ?suInvalidNumber_NoRoom ?suInvalidNumber_NotAlone ?suInvalidNumber_NotHeld ?suInvalidNumber_TooLarge ?zValueError ?zabs ?zbool ?zenumerate ?zint ?zisinstance ?zlen ?zlist ?zmax ?zmin ?zrange ?zrepr ?zstr ?zsum ?ztuple
    (case aCAsk => k_is)
    (case pgAsk => k_is)
    (case hdAsk => k_is)
    (case poAsk => k_is)
    (case saAsk => k_is)
    (case mkAsk => k_is)
    (case kcAsk => k_is)
    (case nAsk_prompt => k_is)
    (case nAsk_most => k_is)
    (case nAsk_stops => k_is)
    (case nAsk_tape => k_is)
    (case nAsk_rule => k_is)
    (case aCRule => k_is)
    (case pgRule => k_is)
    (case hdRule => k_is)
    (case poRule => k_is)
    (case saRule => k_is)
    (case mkRule => k_is)
    (case kcRule => k_is)
    (case nRule_start => k_is)
    (case nRule_steps => k_is)
    (case ow1Rule => k_is)
    (case ow2Rule => k_is)
    (case ow3Rule => k_is)
    (case ow4Rule => k_is)
    (case ow5Rule => k_is)
    (case ow6Rule => k_is)
    (case ow7Rule => k_is)
    (case ow8Rule => k_is)
    (case ow9Rule => k_is)
    (case ownRule => k_is)
    (case aCServeError => k_is)
    (case eiServeError => k_is)
    (case etServeError => k_is)
    (case ebServeError => k_is)
    (case ehServeError => k_is)
    (case aCInvalidNumber => k_is)
    (case eiInvalidNumber => k_is)
    (case etInvalidNumber => k_is)
    (case ebInvalidNumber => k_is)
    (case ehInvalidNumber => k_is)
    (case aCInvalidLetter => k_is)
    (case eiInvalidLetter => k_is)
    (case etInvalidLetter => k_is)
    (case ebInvalidLetter => k_is)
    (case ehInvalidLetter => k_is)
    (case aCNoHouse => k_is)
    (case eiNoHouse => k_is)
    (case etNoHouse => k_is)
    (case ebNoHouse => k_is)
    (case ehNoHouse => k_is)
    (case aCNoRequest => k_is)
    (case eiNoRequest => k_is)
    (case etNoRequest => k_is)
    (case ebNoRequest => k_is)
    (case ehNoRequest => k_is)
    (case aCNoRoom => k_is)
    (case eiNoRoom => k_is)
    (case etNoRoom => k_is)
    (case ebNoRoom => k_is)
    (case ehNoRoom => k_is)
    (case aCNotAlone => k_is)
    (case eiNotAlone => k_is)
    (case etNotAlone => k_is)
    (case ebNotAlone => k_is)
    (case ehNotAlone => k_is)
    (case aCNotHeld => k_is)
    (case eiNotHeld => k_is)
    (case etNotHeld => k_is)
    (case ebNotHeld => k_is)
    (case ehNotHeld => k_is)
    (case aCTooLarge => k_is)
    (case eiTooLarge => k_is)
    (case etTooLarge => k_is)
    (case ebTooLarge => k_is)
    (case ehTooLarge => k_is)
    (case aKMOST_LETTERS => k_is)
    (case aInvalidNumber___init__ => k_is)
    (case iInvalidNumber___init__ => k_is)
    (case lInvalidNumber___init__ => k_is)
    (case cInvalidNumber___init__ => k_is)
    (case kInvalidNumber___init__ => k_is)
    (case ais_between => k_is)
    (case lis_between => k_is)
    (case cis_between => k_is)
    (case kis_between => k_is)
    (case agreatest => k_is)
    (case lgreatest => k_is)
    (case cgreatest => k_is)
    (case kgreatest => k_is)
    (case aby_number => k_is)
    (case lby_number => k_is)
    (case cby_number => k_is)
    (case kby_number => k_is)
    (case aAsk___init__ => k_is)
    (case iAsk___init__ => k_is)
    (case lAsk___init__ => k_is)
    (case cAsk___init__ => k_is)
    (case kAsk___init__ => k_is)
    (case kdAsk___init___stops => k_is)
    (case kwAsk___init___stops => k_is)
    (case kdAsk___init___tape => k_is)
    (case kwAsk___init___tape => k_is)
    (case kdAsk___init___rule => k_is)
    (case aAsk_let_weights => k_is)
    (case iAsk_let_weights => k_is)
    (case lAsk_let_weights => k_is)
    (case cAsk_let_weights => k_is)
    (case kAsk_let_weights => k_is)
    (case aAsk_choice => k_is)
    (case iAsk_choice => k_is)
    (case lAsk_choice => k_is)
    (case cAsk_choice => k_is)
    (case kAsk_choice => k_is)
    (case aRule___init__ => k_is)
    (case iRule___init__ => k_is)
    (case lRule___init__ => k_is)
    (case cRule___init__ => k_is)
    (case kRule___init__ => k_is)
    (case aRule___eq__ => k_is)
    (case iRule___eq__ => k_is)
    (case lRule___eq__ => k_is)
    (case cRule___eq__ => k_is)
    (case kRule___eq__ => k_is)
    (case aRule_after => k_is)
    (case iRule_after => k_is)
    (case lRule_after => k_is)
    (case cRule_after => k_is)
    (case kRule_after => k_is)
    (case aRule_lets => k_is)
    (case iRule_lets => k_is)
    (case lRule_lets => k_is)
    (case cRule_lets => k_is)
    (case kRule_lets => k_is)
    (case aL_numbers => k_is)
    (case lL_numbers => k_is)
    (case cL_numbers => k_is)
    (case kL_numbers => k_is)
    (case aL_same => k_is)
    (case lL_same => k_is)
    (case cL_same => k_is)
    (case kL_same => k_is)
    (case aL_after => k_is)
    (case lL_after => k_is)
    (case cL_after => k_is)
    (case kL_after => k_is)
    (case aL_counted => k_is)
    (case lL_counted => k_is)
    (case cL_counted => k_is)
    (case kL_counted => k_is)
    (case aL_choice => k_is)
    (case lL_choice => k_is)
    (case cL_choice => k_is)
    (case kL_choice => k_is)
    (case aL_rule => k_is)
    (case lL_rule => k_is)
    (case cL_rule => k_is)
    (case kL_rule => k_is)
    (case aL_stops => k_is)
    (case lL_stops => k_is)
    (case cL_stops => k_is)
    (case kL_stops => k_is)
    (case aL_tape => k_is)
    (case lL_tape => k_is)
    (case cL_tape => k_is)
    (case kL_tape => k_is)
    (case aL_made => k_is)
    (case lL_made => k_is)
    (case cL_made => k_is)
    (case kL_made => k_is)
    (case aL_refuses => k_is)
    (case lL_refuses => k_is)
    (case cL_refuses => k_is)
    (case kL_refuses => k_is)
    (case aL_chosen => k_is)
    (case lL_chosen => k_is)
    (case cL_chosen => k_is)
    (case kL_chosen => k_is)
    (case alaw => k_is)
    (case llaw => k_is)
    (case claw => k_is)
    (case klaw => k_is)
    (case xlInvalidNumber => k_is)
    (case xaInvalidNumber => k_is)
    (case xkInvalidNumber => k_is)
    (case xtInvalidNumber => k_is)
    (case xnInvalidNumber => k_is)
    (case xgInvalidNumber => k_is)
    (case xhInvalidNumber => k_is)
    (case xcInvalidNumber => k_is)
    (case xsInvalidNumber => k_is)
    (case xuInvalidNumber => k_is)
    (case xmInvalidNumber => k_is)
    (case xvInvalidNumber => k_is)
    (case suInvalidNumber_ServeError => k_is)
    (case suInvalidNumber_InvalidNumber => k_is)
    (case suInvalidNumber_InvalidLetter => k_is)
    (case suInvalidNumber_NoHouse => k_is)
    (case suInvalidNumber_NoRequest => k_is)
    (case suInvalidNumber_NoRoom => k_is)
    (case suInvalidNumber_NotAlone => k_is)
    (case suInvalidNumber_NotHeld => k_is)
    (case suInvalidNumber_TooLarge => k_is)
    (case zValueError => k_is)
    (case zabs => k_is)
    (case zbool => k_is)
    (case zenumerate => k_is)
    (case zint => k_is)
    (case zisinstance => k_is)
    (case zlen => k_is)
    (case zlist => k_is)
    (case zmax => k_is)
    (case zmin => k_is)
    (case zrange => k_is)
    (case zrepr => k_is)
    (case zstr => k_is)
    (case zsum => k_is)
    (case ztuple => k_is)
#print axioms PySem.Challenge.cw_servedalone_k05_asks_and_choices_holds
