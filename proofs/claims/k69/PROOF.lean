import PyProof.Rows.All
import Wide.All
import OpenK.AllK
import Wide.FinOn
import HandS.ForMost
import HandS.Walk
import HandS.IsInst
import HandS.Evl
import HandS.Property
import HandS.WideBits
import HandS.Conv
import HandS.TupAny
import HandS.MakeKwOnly
import HandS.Defaults
import HandS.ExcInit
import HandS.ExcField
import HandS.ExcIs
import HandS.ExcOwn
import HandS.WordsExc
import HandS.RaiseMore
import HandS.HotCalls
import PyProof.ReprRoads
import PyProof.ReprBulk
import PyProof.InstNe
import KE.KTupSum
import KE.GoesMore
import KE.GoesEnum
import KE.GoesZip
import PySem.Challenge.RW_servedalone_k69_rows_in_a_batch
set_option Elab.async false
set_option linter.all false
set_option maxRecDepth 100000
set_option maxHeartbeats 4000000
namespace L2
open PySem PySem.Spec PyProof.Rows

/-! ### own rules: either of two readings; sums, enumerate and walks of lists or tuples -/
theorem PI.or {X : Cx} {tg iter : Expr} {w1 w2 : TI} (h1 : PI X tg iter w1) (h2 : PI X tg iter w2) : PI X tg iter (fun σ H R => w1 σ H R ∨ w2 σ H R) := by
  refine ⟨fun pins s σ H R I h => ?_⟩
  rcases h with h | h
  · exact h1.run pins s σ H R I h
  · exact h2.run pins s σ H R I h

section
variable {X : Cx}
def rAddG (K : PySem.W.Frag) : R2 := fun x y H Q => (rI0 fun i j => .int (i + j)) x y H Q ∨ rCatT K x y H Q ∨ rCat x y H Q
theorem op_addG : OpR X (binaryOp .Add) (rAddG X.K) := op_add.or (op_catT.or op_cat)
def rEqG (K : PySem.W.Frag) : R2 := fun x y H Q => rEq x y H Q ∨ rEqD K x y H Q
def rNeG (K : PySem.W.Frag) : R2 := fun x y H Q => rNe x y H Q ∨ rNeD K x y H Q
theorem op_eqG (hu : X.A.units + 64 < cLine) : OpR X (compareOp .Eq) (rEqG X.K) := op_eq.or (op_eqD hu)
theorem op_neG (hu : X.A.units + 64 < cLine) : OpR X (compareOp .NotEq) (rNeG X.K) := op_ne.or (op_neD hu)
def rSlG (K : PySem.W.Frag) : V → Option Int → Option Int → Hp → VK → Prop := fun x lo hi H Q => rSlL K x lo hi H Q ∨ rSlA K x lo hi H Q
theorem sl_seqG : SlR X (rSlG X.K) := sl_list.or sl_tupA
def rSumS (K : PySem.W.Frag) : List V → Hp → VK → Prop := fun vs H Q => ∃ (a : Addr) (ns : List Int), vs = [V.ref a] ∧ (SqL K H a (ns.map V.int) ∨ SqT K H a (ns.map V.int)) ∧ Q (.int ns.sum) H
theorem cr_sumS (hc : X.calm = true) : CallR X (.builtin "sum") (rSumS X.K) := by
  intro pins s σ H vs us Q I r h
  obtain ⟨a, ns, rfl, hs, q⟩ := h
  rw [Vals.ref1 r]
  rcases hs with hs | hs
  · obtain ⟨its, rv, hl, _⟩ := I.list hs
    exact sum_raw (I.ok.hd hc) hl.isList rv.ints fun h' tk t' hk => ⟨.int _, H, I.kept hk, ⟨_, rfl⟩, q⟩
  · obtain ⟨its, rv, ht, _⟩ := I.tuple hs
    have hi := rv.ints
    obtain ⟨xs, e⟩ := hi.allInts.items
    have hn : numsOf (intItems xs).toList = ns := by rw [← e]; exact hi.numsOf
    rw [nums_intItems] at hn
    have ht' : s.heap.IsTuple a its.toArray := ht
    rw [e] at ht'
    refine PySem.W.ktm_sumG (I.ok.hd hc) ht' fun h' tk t' hk => ⟨.int ns.sum, H, I.kept hk, ⟨t', ?_⟩, q⟩
    rw [preSum_eq, List.take_of_length_le (by simp), hn]

end

/-! ### enumerate(tuple) -/
def IteT (K : PySem.W.Frag) (a : Addr) : It :=
  ⟨fun i H => ∃ (xs : List V) (x : V), SqT K H a xs ∧ xs[i]? = some x, fun i H v H' => ∃ T x, v = .ref T ∧ H T = none ∧ H' = upd H T (.tup [.int (i : Nat), x]) ∧ ∀ xs, SqT K H a xs → xs[i]? = some x, fun i H => ∃ xs : List V, SqT K H a xs ∧ xs.length ≤ i⟩
theorem tup_ne_iter {h : Heap} {a it : Addr} {items : Array Value} {i : Nat} (p : IsTup h a items) (q : h.IsTupleIter it a i) : a ≠ it := by
  obtain ⟨o, ho, hc, _⟩ := p
  obtain ⟨o', ho', hc', _⟩ := q
  intro e
  subst e
  rw [ho] at ho'
  cases ho'
  rw [hc] at hc'
  exact absurd hc' (by decide)
theorem meets_enumerate_newT (l : Addr) (items : Array Value) :
    Meets (Builtin.«enumerate.__new__» ⟨[.type "enumerate", .ref l], []⟩) (fun _ R s => s.heap.IsTuple l items ∧
      R (.ok (.ret (.ref (s.heap.push { cls := .type "tuple_iterator", data := .fields #[.ref l, .int 0 0] }).objs.size)))
        { s with heap := (s.heap.push { cls := .type "tuple_iterator", data := .fields #[.ref l, .int 0 0] }).push { cls := .type "enumerate", data := .fields #[.none, .bool false, .ref s.heap.objs.size, rawInt 0, .none, .none] } }) :=
  .of_wp fun prog w A R s h => by
    obtain ⟨hp, g, d, tk, os⟩ := s; obtain ⟨h1, h⟩ := h
    have hsub := sub_enumerate
    have q1 : ∀ {A' : Around} {E : Value → Shared → Prop} {Q : Value → Shared → Prop}, Q (.ref hp.objs.size) ⟨hp.push { cls := .type "tuple_iterator", data := .fields #[.ref l, .int 0 0] }, g, d, tk, os⟩ → wpAny (model prog w) A' (pyIter (.ref l)) Q E ⟨hp, g, d, tk, os⟩ :=
      fun q => wpAny_pyIter_tuple (s := ⟨hp, g, d, tk, os⟩) h1 q
    wp_walk using q1
    refine wpAny_stack_any fun st => wpAny_pure ?_
    split
    · rename_i c _ _ _ _ _
      cases (c == Value.type "enumerate")
      · wp_walk using q1
        exact ⟨_, rfl, h⟩
      · wp_walk using q1
        exact ⟨_, rfl, h⟩
    · wp_walk using q1
      exact ⟨_, rfl, h⟩
theorem call_enumerate_tup {prog : Program} {w : World} {A : Around} {E : Value → Shared → Prop} {s : Shared} {l : Addr} {items : Array Value} {Q : Value → Shared → Prop} (hL : s.heap.IsTuple l items)
    (h : ∀ h', IsEnum h' (s.heap.objs.size + 1) s.heap.objs.size 0 .none → h'.IsTupleIter s.heap.objs.size l 0 → h'.objs.size = s.heap.objs.size + 2 →
      (∀ b o, s.heap.get? b = some o → h'.get? b = some o) → Q (.ref (s.heap.objs.size + 1)) { s with heap := h' }) :
    wpAny (model prog w) A (call (.type "enumerate") [.ref l]) Q E s := by
  refine callType_new F.called_enumerate (by decide) (F.typeCall_enumerate_1 _) (F.newCall_enumerate_1 _) (fun obj => F.args_object_init_2 obj _) F.entry_enumerate_new
    (meets_enumerate_newT l items) ⟨hL, ?_⟩
  have hz : (s.heap.push { cls := .type "tuple_iterator", data := .fields #[.ref l, .int 0 0] }).objs.size = s.heap.objs.size + 1 := Heap.size_push ..
  show _ ∧ _
  rw [hz]
  have he : IsEnum ((s.heap.push { cls := .type "tuple_iterator", data := .fields #[.ref l, .int 0 0] }).push
      { cls := .type "enumerate", data := .fields #[.none, .bool false, .ref s.heap.objs.size, rawInt 0, .none, .none] }) (s.heap.objs.size + 1) s.heap.objs.size 0 .none := by
    have := Heap.get?_push_size (s.heap.push { cls := .type "tuple_iterator", data := .fields #[.ref l, .int 0 0] })
      (o := { cls := .type "enumerate", data := .fields #[.none, .bool false, .ref s.heap.objs.size, rawInt 0, .none, .none] }) rfl
    rw [hz] at this; exact this
  refine ⟨⟨_, he, rfl⟩, h _ he ⟨_, Heap.get?_push_of_some _ (Heap.get?_push_size _ rfl), rfl, rfl⟩ (by rw [Heap.size_push, hz]) fun b o x => Heap.get?_push_of_some _ (Heap.get?_push_of_some _ x)⟩
theorem turn_enumT {P : Program} {w : World} {K : PySem.W.Frag} {elts : List Expr} {kk : Nat} {tpos : Pos} (a e it : Addr) :
    Turn P w K (.Tuple elts kk tpos) (IteT K a) [e, it] e (fun i h => (∃ old, IsEnum h e it ((i : Nat) : Int) old) ∧ h.IsTupleIter it a i ∧ e ≠ it) where
  mem := by simp
  obj := fun i h st b hb => by
    obtain ⟨⟨old, he⟩, ⟨o, ho, hc, hd⟩, _⟩ := st
    have e' : b = e ∨ b = it := by simpa using hb
    rcases e' with z | z
    · rw [z]; exact ⟨_, he, fun v q => nomatch q⟩
    · rw [z]; exact ⟨o, ho, fun v q => by rw [hd] at q; cases q⟩
  keep := fun i h h' st k => let ⟨⟨old, he⟩, hi, hne⟩ := st; ⟨⟨old, k e (by simp) _ he⟩, hi.at fun o q => k it (by simp) o q, hne⟩
  item := by
    intro X hP hw hK hc i pins s σ H E I hf st hg
    subst hP hw hK
    obtain ⟨⟨old, he⟩, hit, hne⟩ := st
    obtain ⟨xs, x, hq, hx⟩ := hg
    obtain ⟨its, rv, p, hz⟩ := I.tuple hq
    obtain ⟨u, hu, ru⟩ := rv.get hx
    have hai : a ≠ it := tup_ne_iter p hit
    have hel : e < s.heap.objs.size := Heap.lt_size he
    have hil : it < s.heap.objs.size := by obtain ⟨_, q, _⟩ := hit; exact Heap.lt_size q
    have hal : a < s.heap.objs.size := by obtain ⟨_, q, _⟩ := p; exact Heap.lt_size q
    have hae : e ≠ a := by
      obtain ⟨o, ho, hcl, _⟩ := id p
      intro z
      rw [← z, he] at ho
      cases ho
      have hcl' : (Value.type "enumerate") = Value.type "tuple" := hcl
      exact absurd hcl' (by decide)
    have hlt : i < its.toArray.size := by
      have h1 := (List.getElem?_eq_some_iff.mp hu).1
      simpa using h1
    refine wpAny_pyNext_enum_itemD (Draws.tuple (prog := X.prog) (w := X.w) (A := X.A.in1) (show X.A.in1.handled = none from I.ok.hd hc) it a hai its.toArray) he ⟨hit, p⟩ hlt hne (by simp [hne, hae]) fun y h' tk hP ho st' hT hsz hk => ?_
    have ey : y = u := by
      have h1 : its.toArray[i]? = some y := hP
      have h2 : its.toArray[i]? = some u := by simpa using hu
      rw [h1] at h2
      exact Option.some.inj h2
    subst ey
    refine ⟨_, rfl, wpAny_letOwnedTupleGo_enum (s := { s with heap := h', toks := tk + 1 }) ho fun h'' he' sb => ?_⟩
    have hT2 : h''.get? s.heap.objs.size = some { cls := .type "tuple", data := .seq #[.int i tk, y] } := (sb.2 _ (Nat.ne_of_gt hel)).trans hT
    have new : ObjOk X.prog X.w (upd H s.heap.objs.size (.tup [.int (i : Nat), x])) h'' s.heap.objs.size (.tup [.int (i : Nat), x]) :=
      ⟨by show 2 ≤ sizeLine; decide, [.int i tk, y], .cons ⟨_, rfl⟩ (.cons ru .nil), ⟨_, hT2, rfl, _, rfl⟩⟩
    have I1 : Inv X pins σ (upd H s.heap.objs.size (.tup [.int (i : Nat), x])) { s with heap := h'', toks := tk + 1 } :=
      I.turnedNew (t' := tk + 1) (ch := [e, it]) (fun b ob hb q => (sb.2 b (fun z => hb (by simp [z]))).trans (hk b ob (fun z => hb (by simp [z])) (fun z => hb (by simp [z])) q)) hf (Nat.le_refl _) new
    refine ⟨.ref s.heap.objs.size, _, I1, rfl, ⟨_, x, rfl, I.hok.fresh (Nat.le_refl _), rfl, fun ys hy => by rw [I.tuple_inj hy hq]; exact hx⟩, ⟨⟨y, ?_⟩, st'.1.at fun o q => (sb.2 it (Ne.symm hne)).trans q, hne⟩, fun b hb => ?_⟩
    · have e1 : ((i + 1 : Nat) : Int) = (i : Int) + 1 := by omega
      rw [e1]; exact he'
    · have hb' : b < s.heap.objs.size := by
        have e' : b = e ∨ b = it := by simpa using hb
        rcases e' with z | z
        · rw [z]; exact hel
        · rw [z]; exact hil
      rw [upd_ne (Nat.ne_of_lt hb')]
      exact (hf b hb).1
  done := by
    intro X hP hw hK hc i pins s σ H E I hf st hg
    subst hP hw hK
    obtain ⟨⟨old, he⟩, hit, hne⟩ := st
    obtain ⟨xs, hq, hx⟩ := hg
    obtain ⟨its, rv, p, hz⟩ := I.tuple hq
    have hai : a ≠ it := tup_ne_iter p hit
    obtain ⟨f0, f1, f2, f3, f4, f5⟩ := hf it (by simp)
    have hl := rv.length
    unfold pyNext
    have hT : s.TypeIs (.ref e) "enumerate" := ⟨_, he, rfl⟩
    refine wpAny_bind (wpAny_attempt (wpAny_callSpecial?_slot (name := Str.ofString "__next__") hT F.slot_enumerate_next
      (wpAny_call_entry F.slot_enumerate_next hT F.entry_enumerate_next ?_ (F.args_enumerate_next_1 _))))
    show wpAny _ _ (field (.ref e) 2 >>= _) _ _ _
    refine wpAny_bind (wpAny_field he rfl (x := .ref it) rfl ?_)
    refine wpAny_bind (wpAny_nextOf_tuple_end (show X.A.in1.handled = none from I.ok.hd hc) hit p (by simp; omega) fun h' x he' hx' => ?_)
    obtain ⟨o, ho, hcx⟩ := hx'
    refine wpAny_bind (wpAny_isInstance (T := "StopIteration") (b := true) ⟨o, ho, hcx⟩ isSubtype_stop ?_)
    exact wpAny_pure ⟨rfl, I.turned (t' := s.toks) (fun b o hb q => he' b o hb q) f0 f1 f3 f4 f5⟩
  self := fun A i s Q E st h => let ⟨⟨_, he⟩, _⟩ := st; wpAny_pyIter_enum he h
def iEnumT (K : PySem.W.Frag) (ta : TA) : TI := fun σ H R => ta σ H fun vs H1 => ∃ a xs, vs = [.ref a] ∧ SqT K H1 a xs ∧ R (IteT K a) H1
theorem pi_enumT {X : Cx} {e : Expr} {ta : TA} {p pos tpos : Pos} {elts : List Expr} {kk : Nat} (hg : Gl X "enumerate") (hm : X.mg "enumerate" = none) (ha : PA X [e] ta) (hs : starEach [e] X.env = [(false, eval e X.env)] := by rfl) :
    PI X (.Tuple elts kk tpos) (.Call (.Name "enumerate" p) [e] [] pos) (iEnumT X.K ta) := by
  refine ⟨fun pins s σ H R I h => ?_⟩
  refine Call_ (ld_blt I hg hm boot_enumerate (PyProof.Rows.callWith_type1 (thn (ha.run pos pins s σ H _ I h) fun us s1 ⟨vs, H1, I1, r1, q1⟩ => ?_) hs rfl))
  obtain ⟨a, xs, ex, hq, q⟩ := q1
  subst ex
  cases r1 with
  | cons r rr =>
    cases rr
    cases r
    obtain ⟨its, rv, p', hz⟩ := I1.tuple hq
    refine call_enumerate_tup p' fun h' he hit hsz hk => wpAny_pyIter_enum he ?_
    have I2 : Inv X pins σ H1 { s1 with heap := h' } := I1.kept (t' := s1.toks) hk
    refine ⟨s1.heap.objs.size + 1, [s1.heap.objs.size + 1, s1.heap.objs.size], _, _, H1, rfl, I2, turn_enumT a (s1.heap.objs.size + 1) s1.heap.objs.size, ⟨⟨.none, he⟩, hit, Nat.succ_ne_self _⟩, fun b hb => ?_, q⟩
    have e' : b = s1.heap.objs.size + 1 ∨ b = s1.heap.objs.size := by simpa using hb
    have hle : s1.heap.objs.size ≤ b := by
      rcases e' with z | z
      · rw [z]; exact Nat.le_add_right _ _
      · rw [z]; exact Nat.le_refl _
    exact I1.fpOk hle (I1.hok.fresh hle)
theorem walk_enumT {K : PySem.W.Frag} {a : Addr} {xs : List V} : Walk (IteT K a) xs.length (fun H => SqT K H a xs) (YPair (fun i => some (.int (i : Nat))) (fun i => xs[i]?)) := by
  refine ⟨fun i _ hi q => ⟨xs, xs[i], q, by simp [hi]⟩, fun _ q => ⟨xs, q, Nat.le_refl _⟩, fun i H v H' _ q y => ?_⟩
  obtain ⟨T, x, h1, h2, h3, h4⟩ := y
  exact ⟨T, .int (i : Nat), x, h1, h2, h3, rfl, h4 xs q⟩
end L2

namespace L2
open PySem PySem.Spec PyProof.Rows

/-! ### names for readings -/
section
variable {X : Cx}
def rInt1 : List V → Hp → VK → Prop := fun xs H Q => (∃ i, xs = [.int i] ∧ Q (.int i) H) ∨ ∃ k, xs = [.bl k] ∧ Q (.int (if k then 1 else 0)) H
theorem cr_int1 : CallR X (.type "int") rInt1 := call_int1
def rAbs : List V → Hp → VK → Prop := fun xs H Q => ∃ i, xs = [.int i] ∧ Q (.int (if i < 0 then -i else i)) H
theorem cr_abs : CallR X (.builtin "abs") rAbs := call_abs
def rMax2 : List V → Hp → VK → Prop := fun xs H Q => ∃ i j, xs = [.int i, .int j] ∧ Q (.int (if j > i then j else i)) H
theorem cr_max2 (hc : X.calm = true) : CallR X (.builtin "max") rMax2 := call_max2 hc
def rMin2 : List V → Hp → VK → Prop := fun xs H Q => ∃ i j, xs = [.int i, .int j] ∧ Q (.int (if j < i then j else i)) H
theorem cr_min2 (hc : X.calm = true) : CallR X (.builtin "min") rMin2 := call_min2 hc
def rLenS (K : PySem.W.Frag) : List V → Hp → VK → Prop := fun xs H Q => ∃ p ys, xs = [.ref p] ∧ (SqL K H p ys ∨ SqT K H p ys) ∧ Q (.int ys.length) H
theorem cr_lenS : CallR X (.builtin "len") (rLenS X.K) := call_len_seq
def rListS (K : PySem.W.Frag) : List V → Hp → VK → Prop := fun xs H Q => ∃ p ys, xs = [.ref p] ∧ (SqL K H p ys ∨ SqT K H p ys) ∧ ∀ l, H l = none → Q (.ref l) (upd H l (.lst ys))
theorem cr_listS : CallR X (.type "list") (rListS X.K) := call_list_of
def rTupS (K : PySem.W.Frag) : List V → Hp → VK → Prop := fun xs H Q => ∃ p ys, xs = [.ref p] ∧ ((SqL K H p ys ∧ ∀ l, H l = none → Q (.ref l) (upd H l (.tup ys))) ∨ (SqT K H p ys ∧ Q (.ref p) H))
theorem cr_tupS : CallR X (.type "tuple") (rTupS X.K) := call_tuple_of
def rIsN : R2 := fun x y H Q => y = .non ∧ Q (.bl (decide (x = .non))) H
def rNotN : R2 := fun x y H Q => y = .non ∧ Q (.bl (!decide (x = .non))) H
theorem op_isNN : OpR X (compareOp .Is) rIsN := op_isN
theorem op_notNN : OpR X (compareOp .IsNot) rNotN := op_notN
def tTru (K : PySem.W.Frag) (ta : TE) : TT := fun σ H Q => ta σ H fun x H' => ∃ k, TruV K x H' k ∧ Q k H'
theorem pt_tru {a : Expr} {ta : TE} (ha : PE X a ta) (he : ∀ whole, isTrue a X.env whole = (do let v ← whole; standAt a.pos; holding [v] (truthy v))) : PT X a (tTru X.K ta) := pt_truth ha he
end

/-! ### the readings, one step each -/
def nth (ns : List Int) (i : Int) : Int := ns.getD i.toNat 0
theorem nth_at {ns : List Int} {i : Int} (h0 : 0 ≤ i) (h1 : i < ns.length) : atI (ns.map V.int) i = some (.int (nth ns i)) := by
  have e : i = ((i.toNat : Nat) : Int) := (Int.toNat_of_nonneg h0).symm
  have h2 : i.toNat < ns.length := by omega
  have g : (ns.map V.int)[i.toNat]? = some (.int (nth ns i)) := by
    rw [List.getElem?_map, List.getElem?_eq_getElem h2]
    unfold nth
    rw [List.getD_eq_getElem?_getD, List.getElem?_eq_getElem h2]
    rfl
  exact at_of e g
theorem nth_nat (ns : List Int) (i : Nat) : nth ns (i : Int) = ns.getD i 0 := rfl
theorem nth_mem {ns : List Int} {i : Int} (h0 : 0 ≤ i) (h1 : i < ns.length) : nth ns i ∈ ns := by
  have h2 : i.toNat < ns.length := by omega
  unfold nth
  rw [List.getD_eq_getElem?_getD, List.getElem?_eq_getElem h2]
  exact List.getElem_mem h2

theorem Same.seqT {K : PySem.W.Frag} {H H' : Hp} {a : Addr} {xs : List V} (e : Same H H') (h : SqT K H a xs) : SqT K H' a xs := by
  rcases h with (h | ⟨o, h⟩) | h
  · exact .inl (.inl (e _ _ h))
  · exact .inl (.inr ⟨o, e _ _ h⟩)
  · exact .inr h
/-- a list (true) or a tuple (false) -/
def Sq (b : Bool) (K : PySem.W.Frag) (H : Hp) (a : Addr) (xs : List V) : Prop := match b with
  | true => SqL K H a xs
  | false => SqT K H a xs
theorem Sq.or {b : Bool} {K : PySem.W.Frag} {H : Hp} {a : Addr} {xs : List V} (h : Sq b K H a xs) : SqL K H a xs ∨ SqT K H a xs := by
  cases b
  · exact .inr h
  · exact .inl h
theorem Sq.lst {K : PySem.W.Frag} {H : Hp} {a : Addr} {xs : List V} (h : H a = some (.lst xs)) : Sq true K H a xs := SqL.of h
theorem Sq.tup {K : PySem.W.Frag} {H : Hp} {a : Addr} {xs : List V} (h : H a = some (.tup xs)) : Sq false K H a xs := SqT.of h
theorem Same.sq {b : Bool} {K : PySem.W.Frag} {H H' : Hp} {a : Addr} {xs : List V} (e : Same H H') (h : Sq b K H a xs) : Sq b K H' a xs := by
  cases b
  · exact e.seqT h
  · exact e.seq h
theorem Same.at {H H' : Hp} {a : Addr} {o : HO} (e : Same H H') (h : H a = some o) : H' a = some o := e a o h
theorem Same.new {H : Hp} {p : Addr} {o : HO} (h : H p = none) : Same H (upd H p o) := fun b x e => by
  rw [upd_ne (ne_of_none e h)]
  exact e
theorem Same.mut {H H' : Hp} {p : Addr} {o : HO} (e : Same H H') (h : H p = none) : Same H (upd H' p o) := fun a u ha => by
  rw [upd_ne (ne_of_none ha h)]
  exact e a u ha

section
variable {K : PySem.W.Frag} {σ σ' : St} {H : Hp} {v x y : V} {ta tb te : TE} {t u : TS} {D : Ends} {c d : TT} {Q : VK} {QB : Bool → Hp → Prop} {QA : List V → Hp → Prop} {r : R2}
theorem go_start (e : σ = σ') (h : t D σ' H) : t D σ H := by rw [e]; exact h
-- values
theorem w_var {i : Nat} (h : σ[i]? = some (some v)) (q : Q v H) : tVar i σ H Q := ⟨v, h, q⟩
theorem w_c (q : Q v H) : tC v σ H Q := q
theorem w_op (q : ta σ H fun x H1 => tb σ H1 fun y H2 => r x y H2 Q) : tOp r ta tb σ H Q := q
theorem w_un {r : V → Hp → VK → Prop} (q : ta σ H fun x H1 => r x H1 Q) : tUn r ta σ H Q := q
theorem w_rU {g : Int → V} {i : Int} (q : Q (g i) H) : rU g (.int i) H Q := ⟨i, rfl, q⟩
theorem w_I0 {g : Int → Int → V} {i j : Int} (q : Q (g i j) H) : rI0 g (.int i) (.int j) H Q := ⟨i, j, rfl, rfl, q⟩
theorem w_I {C : Int → Int → Prop} {g : Int → Int → V} {i j : Int} (hc : C i j) (q : Q (g i j) H) : rI C g (.int i) (.int j) H Q := ⟨i, j, rfl, rfl, hc, q⟩
theorem w_addI {i j : Int} (q : Q (.int (i + j)) H) : rAddG K (.int i) (.int j) H Q := .inl ⟨i, j, rfl, rfl, q⟩
theorem w_eqI {i j : Int} (q : Q (.bl (decide (i = j))) H) : rEqG K (.int i) (.int j) H Q := .inl ⟨rfl, by
  have e : decide (V.int i = V.int j) = decide (i = j) := by
    rw [dec_int]
    by_cases h : i = j
    · subst h; simp
    · rw [decide_eq_false h]; exact beq_eq_false_iff_ne.mpr h
  rw [e]; exact q⟩
theorem w_neI {i j : Int} (q : Q (.bl (!decide (i = j))) H) : rNeG K (.int i) (.int j) H Q := .inl ⟨rfl, by
  have e : decide (V.int i = V.int j) = decide (i = j) := by
    rw [dec_int]
    by_cases h : i = j
    · subst h; simp
    · rw [decide_eq_false h]; exact beq_eq_false_iff_ne.mpr h
  rw [e]; exact q⟩
theorem w_eqS (hs : scal x y = true) (q : Q (.bl (decide (x = y))) H) : rEqG K x y H Q := .inl ⟨hs, q⟩
theorem w_eqD {d e : PyData} (hd : Dp K H x d) (he : Dp K H y e) (sd : SeqAt.shaped d = true) (se : SeqAt.shaped e = true) (q : Q (.bl (PyData.eqv d e)) H) : rEqG K x y H Q := .inr ⟨d, e, hd, he, sd, se, q⟩
theorem w_neD {d e : PyData} (hd : Dp K H x d) (he : Dp K H y e) (sd : SeqAt.shaped d = true) (se : SeqAt.shaped e = true) (q : Q (.bl (!PyData.eqv d e)) H) : rNeG K x y H Q := .inr ⟨d, e, hd, he, sd, se, q⟩
theorem w_isN (q : Q (.bl (decide (x = .non))) H) : rIsN x .non H Q := ⟨rfl, q⟩
theorem w_isNn (q : Q (.bl true) H) : rIsN .non .non H Q := ⟨rfl, q⟩
theorem w_isNi {i : Int} (q : Q (.bl false) H) : rIsN (.int i) .non H Q := ⟨rfl, q⟩
theorem w_isNb {b : Bool} (q : Q (.bl false) H) : rIsN (.bl b) .non H Q := ⟨rfl, q⟩
theorem w_isNs {z : Str} (q : Q (.bl false) H) : rIsN (.str z) .non H Q := ⟨rfl, q⟩
theorem w_isNr {a : Addr} (q : Q (.bl false) H) : rIsN (.ref a) .non H Q := ⟨rfl, q⟩
theorem w_notNn (q : Q (.bl false) H) : rNotN .non .non H Q := ⟨rfl, q⟩
theorem w_notNi {i : Int} (q : Q (.bl true) H) : rNotN (.int i) .non H Q := ⟨rfl, q⟩
theorem w_notNb {b : Bool} (q : Q (.bl true) H) : rNotN (.bl b) .non H Q := ⟨rfl, q⟩
theorem w_notNs {z : Str} (q : Q (.bl true) H) : rNotN (.str z) .non H Q := ⟨rfl, q⟩
theorem w_notNr {a : Addr} (q : Q (.bl true) H) : rNotN (.ref a) .non H Q := ⟨rfl, q⟩
theorem w_notN (q : Q (.bl (!decide (x = .non))) H) : rNotN x .non H Q := ⟨rfl, q⟩
theorem w_cb {r : List V → Hp → VK → Prop} {ta : TA} (q : ta σ H fun vs H1 => r vs H1 Q) : tCB r ta σ H Q := q
theorem w_aNil (q : QA [] H) : tNil σ H QA := q
theorem w_aCons {tr : TA} (q : ta σ H fun x H1 => tr σ H1 fun xs H2 => QA (x :: xs) H2) : tCons ta tr σ H QA := q
theorem w_int1 {i : Int} (q : Q (.int i) H) : rInt1 [.int i] H Q := .inl ⟨i, rfl, q⟩
theorem w_int1b {k : Bool} (q : Q (.int (if k then 1 else 0)) H) : rInt1 [.bl k] H Q := .inr ⟨k, rfl, q⟩
theorem w_abs {i : Int} (q : Q (.int (if i < 0 then -i else i)) H) : rAbs [.int i] H Q := ⟨i, rfl, q⟩
theorem w_max2 {i j : Int} (q : Q (.int (if j > i then j else i)) H) : rMax2 [.int i, .int j] H Q := ⟨i, j, rfl, q⟩
theorem w_min2 {i j : Int} (q : Q (.int (if j < i then j else i)) H) : rMin2 [.int i, .int j] H Q := ⟨i, j, rfl, q⟩
theorem w_lenS {p : Addr} {ys : List V} {b : Bool} (h : Sq b K H p ys) (q : Q (.int ys.length) H) : rLenS K [.ref p] H Q := ⟨p, ys, rfl, h.or, q⟩
theorem w_lenI {p : Addr} {ns : List Int} {b : Bool} (h : Sq b K H p (ns.map V.int)) (q : Q (.int ns.length) H) : rLenS K [.ref p] H Q := ⟨p, _, rfl, h.or, by rw [List.length_map]; exact q⟩
theorem w_sumI {p : Addr} {ns : List Int} {b : Bool} (h : Sq b K H p (ns.map V.int)) (q : Q (.int ns.sum) H) : rSumS K [.ref p] H Q := ⟨p, ns, rfl, h.or, q⟩
theorem w_listS {p : Addr} {ys : List V} {b : Bool} (h : Sq b K H p ys) (q : ∀ l, H l = none → Q (.ref l) (upd H l (.lst ys))) : rListS K [.ref p] H Q := ⟨p, ys, rfl, h.or, q⟩
theorem w_tupL {p : Addr} {ys : List V} (h : Sq true K H p ys) (q : ∀ l, H l = none → Q (.ref l) (upd H l (.tup ys))) : rTupS K [.ref p] H Q := ⟨p, ys, rfl, .inl ⟨h, q⟩⟩
theorem w_tupT {p : Addr} {ys : List V} (h : Sq false K H p ys) (q : Q (.ref p) H) : rTupS K [.ref p] H Q := ⟨p, ys, rfl, .inr ⟨h, q⟩⟩
theorem w_ix {b : Bool} {p : Addr} {xs : List V} {i : Int} (h : Sq b K H p xs) (ha : atI xs i = some v) (q : Q v H) : rIx K (.ref p) (.int i) H Q := by
  rcases h.or with h | h
  · exact .inl ⟨p, xs, i, v, rfl, rfl, h, ha, q⟩
  · exact .inr (.inl ⟨p, xs, i, v, rfl, rfl, h, ha, q⟩)
theorem w_ixI {b : Bool} {p : Addr} {ns : List Int} {i : Int} (h : Sq b K H p (ns.map V.int)) (h0 : 0 ≤ i) (h1 : i < ns.length) (q : Q (.int (nth ns i)) H) : rIx K (.ref p) (.int i) H Q := w_ix h (nth_at h0 h1) q
theorem w_tupD {ta : TA} (q : ta σ H fun xs H1 => xs.length ≤ sizeLine ∧ ∀ p, H1 p = none → Q (.ref p) (upd H1 p (.tup xs))) : tTup ta σ H Q := q
theorem w_lstD {ta : TA} (q : ta σ H fun xs H1 => xs.length ≤ sizeLine ∧ ∀ p, H1 p = none → Q (.ref p) (upd H1 p (.lst xs))) : tLst ta σ H Q := q
theorem w_call {sp : Sp} {dvs : List V} {E : XK} {ta : TA} (q : ta σ H fun vs H1 => sp (vs ++ dvs) H1 Q E) : tCall sp dvs E ta σ H Q := q
theorem w_andV (q : ta σ H fun x H1 => ∃ c, x = .bl c ∧ if c = true then tb σ H1 Q else Q (.bl false) H1) : tAndV ta tb σ H Q := q
theorem w_orV (q : ta σ H fun x H1 => ∃ c, x = .bl c ∧ if c = true then Q (.bl true) H1 else tb σ H1 Q) : tOrV ta tb σ H Q := q
theorem w_notV (q : ta σ H fun x H1 => ∃ c, x = .bl c ∧ Q (.bl (!c)) H1) : tNotV ta σ H Q := q
-- methods of lists
theorem w_bm {T : String} {r : V → List V → Hp → VK → Prop} {to : TE} {ta : TA} (q : to σ H fun x H1 => tyV K T x H1 ∧ ta σ H1 fun xs H2 => r x xs H2 Q) : tBM K T r to ta σ H Q := q
theorem w_append {l : Addr} {xs : List V} (h : H l = some (.lst xs)) (hz : xs.length < sizeLine) (q : Q .non (upd H l (.lst (xs ++ [y])))) : rAppend (.ref l) [y] H Q := ⟨l, xs, y, rfl, rfl, h, hz, q⟩
theorem w_tyL {l : Addr} {xs : List V} {B : Prop} (h : Sq true K H l xs) (q : B) : tyV K "list" (.ref l) H ∧ B := ⟨.inl ⟨rfl, _, h⟩, q⟩
-- tests
theorem w_test (q : ta σ H fun x H' => ∃ k, x = .bl k ∧ QB k H') : tTest ta σ H QB := q
theorem w_tB (q : ta σ H fun x H' => ∃ k, x = .bl k ∧ QB k H') : tB ta σ H QB := q
theorem w_tru (q : ta σ H fun x H' => ∃ k, TruV K x H' k ∧ QB k H') : tTru K ta σ H QB := q
theorem w_exb {b : Bool} {F : Bool → Prop} (q : F b) : ∃ k, V.bl b = .bl k ∧ F k := ⟨b, rfl, q⟩
theorem w_truB {b : Bool} {F : Bool → Prop} (q : F b) : ∃ k, TruV K (.bl b) H k ∧ F k := ⟨b, rfl, q⟩
theorem w_truI {i : Int} {F : Bool → Prop} (q : F (i != 0)) : ∃ k, TruV K (.int i) H k ∧ F k := ⟨_, rfl, q⟩
theorem w_not (q : c σ H fun b H1 => QB (!b) H1) : tNot c σ H QB := q
theorem w_and (q : c σ H fun b H1 => if b = true then d σ H1 QB else QB false H1) : tAnd c d σ H QB := q
theorem w_or (q : c σ H fun b H1 => if b = true then QB true H1 else d σ H1 QB) : tOr c d σ H QB := q
theorem w_ifE (q : c σ H fun b H1 => if b = true then ta σ H1 Q else tb σ H1 Q) : tIf c ta tb σ H Q := q
theorem w_iteD {p A B : Prop} {_ : Decidable p} (h1 : p → A) (h2 : ¬ p → B) : if decide p = true then A else B := by
  by_cases h : p
  · rw [if_pos (decide_eq_true h)]; exact h1 h
  · rw [if_neg (by simp [h])]; exact h2 h
theorem w_iteN {p A B : Prop} {_ : Decidable p} (h1 : ¬ p → A) (h2 : p → B) : if (!decide p) = true then A else B := by
  by_cases h : p
  · rw [if_neg (by simp [h])]; exact h2 h
  · rw [if_pos (by simp [h])]; exact h1 h
theorem w_iteNT {A B : Prop} (h : B) : if (!true) = true then A else B := h
theorem w_iteNF {A B : Prop} (h : A) : if (!false) = true then A else B := h
theorem w_iteB {b : Bool} {A B : Prop} (h1 : b = true → A) (h2 : b = false → B) : if b = true then A else B := by
  cases b
  · exact h2 rfl
  · exact h1 rfl
-- statements
variable {f b' c' : St → Hp → Prop} {rt : VK}
theorem w_seq (q : t ⟨u ⟨f, rt, b', c'⟩, rt, b', c'⟩ σ H) : tSeq t u ⟨f, rt, b', c'⟩ σ H := q
theorem w_asg {g : TG} (q : te σ H fun x H1 => g x σ H1 f) : tAsg te g ⟨f, rt, b', c'⟩ σ H := q
theorem w_gName {i : Nat} {N : St → Hp → Prop} (q : N (σ.set i (some v)) H) : gName i v σ H N := q
theorem w_drop (q : te σ H fun _ H1 => f σ H1) : tDrop te ⟨f, rt, b', c'⟩ σ H := q
theorem w_ret (q : te σ H rt) : tRet te ⟨f, rt, b', c'⟩ σ H := q
theorem w_retN (q : rt .non H) : tRetN ⟨f, rt, b', c'⟩ σ H := q
theorem w_ifS (q : c σ H fun b H1 => if b = true then t D σ H1 else u D σ H1) : tIfS c t u D σ H := q
theorem w_next (q : f σ H) : tNext ⟨f, rt, b', c'⟩ σ H := q
theorem w_brk (q : b' σ H) : tBreak ⟨f, rt, b', c'⟩ σ H := q
theorem w_cont (q : c' σ H) : tCont ⟨f, rt, b', c'⟩ σ H := q
theorem w_nx {f b c : St → Hp → Prop} {r : VK} (q : f σ H) : Ends.nx ⟨f, r, b, c⟩ σ H := q
theorem w_rt {f b c : St → Hp → Prop} {r : VK} (q : r v H) : Ends.rt ⟨f, r, b, c⟩ v H := q
theorem w_bk {f b c : St → Hp → Prop} {r : VK} (q : b σ H) : Ends.bk ⟨f, r, b, c⟩ σ H := q
theorem w_ct {f b c : St → Hp → Prop} {r : VK} (q : c σ H) : Ends.ct ⟨f, r, b, c⟩ σ H := q
theorem w_augI {i : Nat} {g : Int → Int → Int} {z : Int} (hx : σ[i]? = some (some (.int z))) (q : te σ H fun y H1 => ipI g (.int z) y H1 fun z H2 => f (σ.set i (some z)) H2) : tAug i te (ipI g) ⟨f, rt, b', c'⟩ σ H := ⟨_, hx, q⟩
theorem w_ipI {f : Int → Int → Int} {i j : Int} (q : Q (.int (f i j)) H) : ipI f (.int i) (.int j) H Q := ⟨i, j, rfl, rfl, q⟩
-- slices
theorem w_sl {r : V → Option Int → Option Int → Hp → VK → Prop} {tl th : TO} (q : te σ H fun x H1 => tl σ H1 fun l H2 => th σ H2 fun u H3 => r x l u H3 Q) : tSl r te tl th σ H Q := q
theorem w_noPart {QO : Option Int → Hp → Prop} (q : QO none H) : tNoPart σ H QO := q
theorem w_part {QO : Option Int → Hp → Prop} (q : te σ H fun x H1 => ∃ i, x = .int i ∧ QO (some i) H1) : tPart te σ H QO := q
theorem w_exi {i : Int} {F : Int → Prop} (q : F i) : ∃ k, V.int i = .int k ∧ F k := ⟨i, rfl, q⟩
theorem w_slL {a : Addr} {xs : List V} {lo hi : Option Int} (h : Sq true K H a xs) (q : ∀ p, H p = none → Q (.ref p) (upd H p (.lst (cutV xs lo hi)))) : rSlG K (.ref a) lo hi H Q := .inl ⟨a, xs, rfl, h, q⟩
-- loops
end
/-- what a for asks of its walk J -/
def LoopOk (J : It) (g : TG) (tb : TS) (D : Ends) (σ : St) (H : Hp) : Prop := ∃ W : Nat → Nat → St → Hp → Prop, (∃ m, W 0 m σ H) ∧ ∀ i m σ H, W i m σ H →
  (J.stop i H ∧ D.nx σ H) ∨ (J.go i H ∧ ∃ N : St → Hp → Prop, (∀ σ' H', N σ' H' → ∃ m', m' < m ∧ W (i + 1) m' σ' H') ∧ ∀ x H', J.yld i H x H' → g x σ H' fun σ2 H2 => tb { D with nx := N, ct := N, bk := D.nx } σ2 H2)
section
variable {K : PySem.W.Frag} {σ σ' : St} {H : Hp} {t : TS} {D : Ends} {g : TG} {f b' c' : St → Hp → Prop} {rt : VK}
theorem w_for {wi : TI} (q : wi σ H fun J H1 => LoopOk J g t D σ H1) : tFor wi g t D σ H := q
theorem w_iRng1 {ta : TA} {R : It → Hp → Prop} (q : ta σ H fun vs H1 => ∃ j : Int, vs = [.int j] ∧ -(2 ^ 62) ≤ j ∧ j < 2 ^ 62 ∧ R (Itr 0 j.toNat) H1) : iRng1 ta σ H R := q
theorem w_iRng2 {ta : TA} {R : It → Hp → Prop} (q : ta σ H fun vs H1 => ∃ i j : Int, vs = [.int i, .int j] ∧ (-(2 ^ 62) ≤ i ∧ i < 2 ^ 62 ∧ -(2 ^ 62) ≤ j ∧ j < 2 ^ 62) ∧ R (Itr i (j - i).toNat) H1) : iRng2 ta σ H R := q
theorem l_it {J : It} {n : Nat} {G : Hp → Prop} {Y : Nat → Hp → V → Hp → Prop} (w : Walk J n G Y) (Pv : Nat → St → Hp → Prop) (h0 : Pv 0 σ H) (hG : ∀ i σ H, i ≤ n → Pv i σ H → G H)
    (hs : ∀ i x σ H H', i < n → Pv i σ H → Y i H x H' → g x σ H' fun σ2 H2 => t ⟨Pv (i + 1), rt, f, Pv (i + 1)⟩ σ2 H2) (hd : ∀ σ H, Pv n σ H → f σ H) : LoopOk J g t ⟨f, rt, b', c'⟩ σ H := for_it w Pv h0 hG hs hd
/-- for k in range(n) -/
theorem l_range {n : Int} {k : Nat} (Pv : Nat → St → Hp → Prop) (h1 : -(2 ^ 62) ≤ n) (h2 : n < 2 ^ 62) (h0 : Pv 0 σ H)
    (hs : ∀ (i : Nat) σ' H', (i : Int) < n → Pv i σ' H' → t ⟨Pv (i + 1), rt, f, Pv (i + 1)⟩ (σ'.set k (some (.int (i : Int)))) H') (hd : ∀ σ' H', Pv n.toNat σ' H' → f σ' H') :
    ∃ j : Int, [V.int n] = [.int j] ∧ -(2 ^ 62) ≤ j ∧ j < 2 ^ 62 ∧ LoopOk (Itr 0 j.toNat) (gName k) t ⟨f, rt, b', c'⟩ σ H := by
  refine ⟨n, rfl, h1, h2, l_it walk_range Pv h0 (fun _ _ _ _ _ => trivial) (fun i x σ' H1 H2 hi hp hy => ?_) hd⟩
  obtain ⟨e, ex⟩ := hy
  subst e ex
  show gName k (V.int (0 + (i : Int))) σ' _ _
  rw [Int.zero_add]
  exact hs i σ' _ (by omega) hp
theorem l_range2 {lo n : Int} {k : Nat} (Pv : Nat → St → Hp → Prop) (h1 : -(2 ^ 62) ≤ lo ∧ lo < 2 ^ 62 ∧ -(2 ^ 62) ≤ n ∧ n < 2 ^ 62) (h0 : Pv 0 σ H)
    (hs : ∀ (i : Nat) σ' H', lo + (i : Int) < n → Pv i σ' H' → t ⟨Pv (i + 1), rt, f, Pv (i + 1)⟩ (σ'.set k (some (.int (lo + (i : Int))))) H') (hd : ∀ σ' H', Pv (n - lo).toNat σ' H' → f σ' H') :
    ∃ i j : Int, [V.int lo, V.int n] = [.int i, .int j] ∧ (-(2 ^ 62) ≤ i ∧ i < 2 ^ 62 ∧ -(2 ^ 62) ≤ j ∧ j < 2 ^ 62) ∧ LoopOk (Itr i (j - i).toNat) (gName k) t ⟨f, rt, b', c'⟩ σ H := by
  refine ⟨lo, n, rfl, h1, l_it walk_range Pv h0 (fun _ _ _ _ _ => trivial) (fun i x σ' H1 H2 hi hp hy => ?_) hd⟩
  obtain ⟨e, ex⟩ := hy
  subst e ex
  exact hs i σ' _ (by omega) hp
end

/-! ### for x in (a list or a tuple), enumerate of either: what is walked is reckoned first -/
def iSeq (K : PySem.W.Frag) (tl : TE) : TI := fun σ H R => tl σ H fun x H1 => ∃ a, x = .ref a ∧ ((∃ xs, SqL K H1 a xs) ∧ R (Itl K a) H1 ∨ (∃ xs, SqT K H1 a xs) ∧ R (Itt K a) H1)
section
variable {X : Cx}
theorem pi_seqS {tg l : Expr} {tl : TE} (hl : PE X l tl) : PI X tg l (iSeq X.K tl) := by
  refine ⟨fun pins s σ H R I h => ?_⟩
  refine thn (hl.run pins s σ H _ I h) fun v s1 ⟨x, H1, I1, r1, q1⟩ => ?_
  obtain ⟨a, e, q1⟩ := q1
  subst e
  cases r1
  rcases q1 with ⟨⟨xs, hq⟩, q⟩ | ⟨⟨xs, hq⟩, q⟩
  · obtain ⟨its, rv, p, hz⟩ := I1.list hq
    refine wpAny_pyIter_list p.isList ?_
    refine ⟨s1.heap.objs.size, [s1.heap.objs.size], _, _, H1, rfl, I1.kept (t' := s1.toks) fun b o e => Heap.get?_push_of_some _ e, turn_list a _, ⟨_, Heap.get?_push_size _ rfl, rfl, rfl⟩, fun b hb => ?_, q⟩
    have e : b = s1.heap.objs.size := by simpa using hb
    subst e
    exact I1.fpOk (Nat.le_refl _) (I1.hok.fresh (Nat.le_refl _))
  · obtain ⟨its, rv, p, hz⟩ := I1.tuple hq
    refine wpAny_pyIter_tuple (show s1.heap.IsTuple a its.toArray from p) ?_
    refine ⟨s1.heap.objs.size, [s1.heap.objs.size], _, _, H1, rfl, I1.kept (t' := s1.toks) fun b o e => Heap.get?_push_of_some _ e, turn_tuple a _, ⟨_, Heap.get?_push_size _ rfl, rfl, rfl⟩, fun b hb => ?_, q⟩
    have e : b = s1.heap.objs.size := by simpa using hb
    subst e
    exact I1.fpOk (Nat.le_refl _) (I1.hok.fresh (Nat.le_refl _))
def iEnumS (K : PySem.W.Frag) (ta : TA) : TI := fun σ H R => ta σ H fun vs H1 => ∃ a, vs = [.ref a] ∧ ((∃ xs, SqL K H1 a xs) ∧ R (Ite K a) H1 ∨ (∃ xs, SqT K H1 a xs) ∧ R (IteT K a) H1)
theorem pi_enumS {e : Expr} {ta : TA} {p pos tpos : Pos} {elts : List Expr} {kk : Nat} (hg : Gl X "enumerate") (hm : X.mg "enumerate" = none) (ha : PA X [e] ta) (hs : starEach [e] X.env = [(false, eval e X.env)] := by rfl) :
    PI X (.Tuple elts kk tpos) (.Call (.Name "enumerate" p) [e] [] pos) (iEnumS X.K ta) := by
  refine ⟨fun pins s σ H R I h => ?_⟩
  refine Call_ (ld_blt I hg hm boot_enumerate (PyProof.Rows.callWith_type1 (thn (ha.run pos pins s σ H _ I h) fun us s1 ⟨vs, H1, I1, r1, q1⟩ => ?_) hs rfl))
  obtain ⟨a, ex, q1⟩ := q1
  subst ex
  cases r1 with
  | cons r rr =>
    cases rr
    cases r
    have fp : ∀ b ∈ [s1.heap.objs.size + 1, s1.heap.objs.size], FpOk X pins H1 b := fun b hb => by
      have e' : b = s1.heap.objs.size + 1 ∨ b = s1.heap.objs.size := by simpa using hb
      have hle : s1.heap.objs.size ≤ b := by
        rcases e' with z | z
        · rw [z]; exact Nat.le_add_right _ _
        · rw [z]; exact Nat.le_refl _
      exact I1.fpOk hle (I1.hok.fresh hle)
    rcases q1 with ⟨⟨xs, hq⟩, q⟩ | ⟨⟨xs, hq⟩, q⟩
    · obtain ⟨its, rv, p', hz⟩ := I1.list hq
      refine call_enumerate_list p'.isList fun h' he hit hsz hk => wpAny_pyIter_enum he ?_
      have I2 : Inv X pins σ H1 { s1 with heap := h' } := I1.kept (t' := s1.toks) hk
      exact ⟨s1.heap.objs.size + 1, [s1.heap.objs.size + 1, s1.heap.objs.size], _, _, H1, rfl, I2, turn_enum a (s1.heap.objs.size + 1) s1.heap.objs.size, ⟨⟨.none, he⟩, hit, Nat.succ_ne_self _⟩, fp, q⟩
    · obtain ⟨its, rv, p', hz⟩ := I1.tuple hq
      refine call_enumerate_tup p' fun h' he hit hsz hk => wpAny_pyIter_enum he ?_
      have I2 : Inv X pins σ H1 { s1 with heap := h' } := I1.kept (t' := s1.toks) hk
      exact ⟨s1.heap.objs.size + 1, [s1.heap.objs.size + 1, s1.heap.objs.size], _, _, H1, rfl, I2, turn_enumT a (s1.heap.objs.size + 1) s1.heap.objs.size, ⟨⟨.none, he⟩, hit, Nat.succ_ne_self _⟩, fp, q⟩
end
section
variable {K : PySem.W.Frag} {σ : St} {H : Hp} {t : TS} {D : Ends} {g : TG} {f b' c' : St → Hp → Prop} {rt : VK}
theorem w_iSeq {tl : TE} {R : It → Hp → Prop} (q : tl σ H fun x H1 => ∃ a, x = .ref a ∧ ((∃ xs, SqL K H1 a xs) ∧ R (Itl K a) H1 ∨ (∃ xs, SqT K H1 a xs) ∧ R (Itt K a) H1)) : iSeq K tl σ H R := q
theorem w_iEnumS {ta : TA} {R : It → Hp → Prop} (q : ta σ H fun vs H1 => ∃ a, vs = [.ref a] ∧ ((∃ xs, SqL K H1 a xs) ∧ R (Ite K a) H1 ∨ (∃ xs, SqT K H1 a xs) ∧ R (IteT K a) H1)) : iEnumS K ta σ H R := q
theorem l_seq {b : Bool} {a : Addr} (xs : List V) (Pv : Nat → St → Hp → Prop) (h : Sq b K H a xs) (h0 : Pv 0 σ H) (hG : ∀ i σ H, i ≤ xs.length → Pv i σ H → Sq b K H a xs)
    (hs : ∀ (i : Nat) x σ' H', i < xs.length → xs[i]? = some x → Pv i σ' H' → g x σ' H' fun σ2 H2 => t ⟨Pv (i + 1), rt, f, Pv (i + 1)⟩ σ2 H2) (hd : ∀ σ' H', Pv xs.length σ' H' → f σ' H') :
    ∃ a', V.ref a = .ref a' ∧ ((∃ xs, SqL K H a' xs) ∧ LoopOk (Itl K a') g t ⟨f, rt, b', c'⟩ σ H ∨ (∃ xs, SqT K H a' xs) ∧ LoopOk (Itt K a') g t ⟨f, rt, b', c'⟩ σ H) := by
  refine ⟨a, rfl, ?_⟩
  cases b with
  | true =>
    refine .inl ⟨⟨xs, h⟩, l_it (walk_list (xs := xs)) Pv h0 hG (fun i x σ' H1 H2 hi hp hy => ?_) hd⟩
    obtain ⟨e, ex⟩ := hy
    subst e
    exact hs i x σ' _ hi ex hp
  | false =>
    refine .inr ⟨⟨xs, h⟩, l_it (walk_tup (xs := xs)) Pv h0 hG (fun i x σ' H1 H2 hi hp hy => ?_) hd⟩
    obtain ⟨e, ex⟩ := hy
    subst e
    exact hs i x σ' _ hi ex hp
theorem l_enum {b : Bool} {a : Addr} (xs : List V) (Pv : Nat → St → Hp → Prop) (h : Sq b K H a xs) (h0 : Pv 0 σ H) (hG : ∀ i σ H, i ≤ xs.length → Pv i σ H → Sq b K H a xs)
    (hs : ∀ (i : Nat) x (T : Addr) σ' H', i < xs.length → xs[i]? = some x → Pv i σ' H' → H' T = none → g (.ref T) σ' (upd H' T (.tup [.int (i : Int), x])) fun σ2 H2 => t ⟨Pv (i + 1), rt, f, Pv (i + 1)⟩ σ2 H2) (hd : ∀ σ' H', Pv xs.length σ' H' → f σ' H') :
    ∃ a', [V.ref a] = [.ref a'] ∧ ((∃ xs, SqL K H a' xs) ∧ LoopOk (Ite K a') g t ⟨f, rt, b', c'⟩ σ H ∨ (∃ xs, SqT K H a' xs) ∧ LoopOk (IteT K a') g t ⟨f, rt, b', c'⟩ σ H) := by
  refine ⟨a, rfl, ?_⟩
  cases b with
  | true =>
    refine .inl ⟨⟨xs, h⟩, l_it (walk_enum (xs := xs)) Pv h0 hG (fun i x σ' H1 H2 hi hp hy => ?_) hd⟩
    obtain ⟨T, u, v, rfl, hT, e, hu, hv⟩ := hy
    cases hu
    subst e
    exact hs i v T σ' _ hi hv hp hT
  | false =>
    refine .inr ⟨⟨xs, h⟩, l_it (walk_enumT (xs := xs)) Pv h0 hG (fun i x σ' H1 H2 hi hp hy => ?_) hd⟩
    obtain ⟨T, u, v, rfl, hT, e, hu, hv⟩ := hy
    cases hu
    subst e
    exact hs i v T σ' _ hi hv hp hT
/-- a, b = (a new pair) -/
theorem w_pair {i j : Nat} {a : Addr} {x y : V} {N : St → Hp → Prop} (h : Sq false K H a [x, y]) (q : N ((σ.set i (some x)).set j (some y)) H) : gTup K 2 (gCons (gName i) (gCons (gName j) gNil)) (.ref a) σ H N :=
  ⟨a, [x, y], rfl, h, rfl, x, [y], rfl, y, [], rfl, rfl, q⟩
end
end L2

namespace L2
open PySem PySem.Spec PyProof.Rows
/-! ### stores into lists, cuts, isinstance, lists of numbers -/
section
variable {K : PySem.W.Frag} {σ : St} {H : Hp} {v x : V} {D : Ends} {t u : TS} {Q : VK} {ta tb : TE}
theorem w_gSub {r : TSet} {N : St → Hp → Prop} (q : ta σ H fun o H1 => tb σ H1 fun i H2 => r o i v H2 fun H3 => N σ H3) : gSub ta tb r v σ H N := q
theorem w_setI {p : Addr} {ns : List Int} {k z : Int} {N : Hp → Prop} (h : H p = some (.lst (ns.map V.int))) (h0 : 0 ≤ k) (h1 : k < ns.length) (q : N (upd H p (.lst ((ns.set k.toNat z).map V.int)))) : rSetL (.ref p) (.int k) (.int z) H N := by
  refine ⟨p, ns.map V.int, k, k.toNat, rfl, rfl, h, ?_, ?_⟩
  · unfold ixN
    rw [if_pos h0, if_pos (by rw [List.length_map]; omega)]
  · rw [← List.map_set]; exact q
theorem w_setL {p : Addr} {xs : List V} {k : Int} {N : Hp → Prop} (h : H p = some (.lst xs)) (h0 : 0 ≤ k) (h1 : k < xs.length) (q : N (upd H p (.lst (xs.set k.toNat v)))) : rSetL (.ref p) (.int k) v H N := by
  refine ⟨p, xs, k, k.toNat, rfl, rfl, h, ?_, q⟩
  unfold ixN
  rw [if_pos h0, if_pos (by omega)]
theorem w_cut {f b' c' : St → Hp → Prop} {rt : VK} (Mid : St → Hp → Prop) (h1 : t ⟨Mid, rt, b', c'⟩ σ H) (h2 : ∀ σ' H', Mid σ' H' → u ⟨f, rt, b', c'⟩ σ' H') : Evl.tCut t u ⟨f, rt, b', c'⟩ σ H := ⟨Mid, h1, h2⟩
theorem w_isi {tn cn : String} {b : Bool} (ht : TyX K H x (.type tn)) (hk : kitB tn cn = some b) (q : Q (.bl b) H) : rIsi K [x, .ty cn] H Q := ⟨x, .ty cn, _, _, b, rfl, .ty cn, ht, kit_ty hk, q⟩
theorem tyx_tup {a : Addr} {xs : List V} (h : SqT K H a xs) : TyX K H (.ref a) (.type "tuple") := by
  rcases h with (h | ⟨o, h⟩) | ⟨o, its, n, h1, h2, _⟩
  · exact .base (.tup h)
  · exact .fTuple h
  · exact .kTuple h1 h2
theorem tyx_lst {a : Addr} {xs : List V} (h : SqL K H a xs) : TyX K H (.ref a) (.type "list") := by
  rcases h with (h | ⟨o, h⟩) | ⟨o, its, n, h1, h2, _⟩
  · exact .base (.lst h)
  · exact .base (.frz h)
  · exact .kList h1 h2
end
theorem last_at_neg {ns : List Int} (h : 0 < ns.length) : ∃ z, z ∈ ns ∧ atI (ns.map V.int) (-1) = some (.int z) := by
  refine ⟨ns[ns.length - 1], List.getElem_mem _, ?_⟩
  unfold atI ixN
  rw [if_neg (by decide), if_pos (by rw [List.length_map]; omega)]
  show (ns.map V.int)[(-1 + (((ns.map V.int).length : Nat) : Int)).toNat]? = _
  rw [List.length_map, show (-1 + ((ns.length : Nat) : Int)).toNat = ns.length - 1 by omega, List.getElem?_map, List.getElem?_eq_getElem (by omega)]
  rfl
theorem sum_nonneg : ∀ {ns : List Int}, (∀ x ∈ ns, (0 : Int) ≤ x) → 0 ≤ ns.sum
  | [], _ => by simp
  | a :: r, h => by
    have h1 := h a (List.mem_cons_self ..)
    have h2 := sum_nonneg (ns := r) fun x hx => h x (List.mem_cons_of_mem _ hx)
    rw [List.sum_cons]; omega
theorem sum_ge_mem : ∀ {ns : List Int} {z : Int}, (∀ x ∈ ns, (0 : Int) ≤ x) → z ∈ ns → z ≤ ns.sum
  | a :: r, z, h, hz => by
    have h1 := h a (List.mem_cons_self ..)
    have h2 := sum_nonneg (ns := r) fun x hx => h x (List.mem_cons_of_mem _ hx)
    rw [List.sum_cons]
    rcases List.mem_cons.mp hz with e | e
    · subst e; omega
    · have := sum_ge_mem (ns := r) (fun x hx => h x (List.mem_cons_of_mem _ hx)) e
      omega
/-- the same data by _law_same: no deeper than n -/
def Sm (K : PySem.W.Frag) (H : Hp) : Nat → V → V → Prop
  | 0, x, y => x = y ∧ (x = .non ∨ (∃ b, x = .bl b) ∨ (∃ i, x = .int i) ∨ ∃ s, x = .str s)
  | n + 1, x, y => (x = y ∧ (x = .non ∨ (∃ b, x = .bl b) ∨ (∃ i, x = .int i) ∨ ∃ s, x = .str s)) ∨
    ∃ (a a' : Addr) (k : Bool) (xs ys : List V), x = .ref a ∧ y = .ref a' ∧ SqT K H a xs ∧ Sq k K H a' ys ∧ xs.length = ys.length ∧ ys.length ≤ 100000 ∧ ∀ (i : Nat) x' y', xs[i]? = some x' → ys[i]? = some y' → Sm K H n x' y'
theorem Sm.int {K : PySem.W.Frag} {H : Hp} {n : Nat} {i : Int} : Sm K H n (.int i) (.int i) := by
  cases n
  · exact ⟨rfl, .inr (.inr (.inl ⟨i, rfl⟩))⟩
  · exact .inl ⟨rfl, .inr (.inr (.inl ⟨i, rfl⟩))⟩
theorem Same.sm {K : PySem.W.Frag} {H H' : Hp} (e : Same H H') : ∀ {n : Nat} {x y : V}, Sm K H n x y → Sm K H' n x y
  | 0, _, _, h => h
  | n + 1, _, _, h => by
    rcases h with h | ⟨a, a', k, xs, ys, h1, h2, h3, h4, h5, hz, h6⟩
    · exact .inl h
    · exact .inr ⟨a, a', k, xs, ys, h1, h2, e.seqT h3, e.sq h4, h5, hz, fun i x' y' hx hy => Same.sm e (h6 i x' y' hx hy)⟩
end L2

namespace L2
open PySem PySem.Spec PyProof.Rows
/-! ### lists of numbers: cut, compared, looked into -/
section
variable {K : PySem.W.Frag} {H : Hp} {Q : VK}
theorem cutV_to (ns : List Int) {j : Int} (hj : 0 ≤ j) : cutV (ns.map V.int) none (some j) = (ns.take j.toNat).map V.int := by
  have e : j = ((j.toNat : Nat) : Int) := (Int.toNat_of_nonneg hj).symm
  unfold cutV
  rw [HT.sIx_none, e, HT.sIx_nat, List.drop_zero, Nat.sub_zero, Int.toNat_natCast, List.map_take, List.length_map]
  rcases Nat.le_total j.toNat ns.length with h | h
  · rw [Nat.min_eq_left h]
  · rw [Nat.min_eq_right h, List.take_of_length_le (by rw [List.length_map]; exact Nat.le_refl _), List.take_of_length_le (by rw [List.length_map]; exact h)]
theorem w_slTo {a : Addr} {ns : List Int} {j : Int} (h : Sq true K H a (ns.map V.int)) (hj : 0 ≤ j) (q : ∀ p, H p = none → Q (.ref p) (upd H p (.lst ((ns.take j.toNat).map V.int)))) : rSlG K (.ref a) none (some j) H Q :=
  .inl ⟨a, ns.map V.int, rfl, h, fun p hp => by rw [cutV_to ns hj]; exact q p hp⟩
theorem dpAll_ints {ns : List Int} : DpAll K H (ns.map V.int) (ns.map PyData.int) := by
  induction ns with
  | nil => exact .nil
  | cons a r ih => exact .cons (.int a) ih
theorem dp_ints {b : Bool} {a : Addr} {ns : List Int} (h : Sq b K H a (ns.map V.int)) : Dp K H (.ref a) (if b then .list (ns.map PyData.int) else .tuple (ns.map PyData.int)) := by
  cases b
  · exact .tup h dpAll_ints
  · exact .lst h dpAll_ints
theorem canLay_ints (ns : List Int) : PyData.canLayAll0 (ns.map PyData.int) = true := by
  induction ns with
  | nil => rfl
  | cons a r ih => simp only [List.map_cons, PyData.canLayAll0, PyData.canLay0, ih, Bool.and_self]
theorem depth_ints (ns : List Int) : PyData.depthAll (ns.map PyData.int) = 0 := by
  induction ns with
  | nil => rfl
  | cons a r ih => simp only [List.map_cons, PyData.depthAll, PyData.depth, ih, Nat.max_self]
theorem shaped_ints (ns : List Int) : SeqAt.shaped (.list (ns.map PyData.int)) = true := by
  simp [SeqAt.shaped, PyData.canLay0, PyData.depth, canLay_ints, depth_ints]
theorem shaped_intsT (ns : List Int) : SeqAt.shaped (.tuple (ns.map PyData.int)) = true := by
  simp [SeqAt.shaped, PyData.canLay0, PyData.depth, canLay_ints, depth_ints]
theorem eqvAll_ints (ns : List Int) : PyData.eqvAll (ns.map PyData.int) (ns.map PyData.int) = true := by
  induction ns with
  | nil => rfl
  | cons a r ih => simp only [List.map_cons, PyData.eqvAll, PyData.eqv, ih, beq_self_eq_true, Bool.and_self]
theorem w_neInts {a a' : Addr} {ns : List Int} (h : Sq true K H a (ns.map V.int)) (h' : Sq true K H a' (ns.map V.int)) (q : Q (.bl false) H) : rNeG K (.ref a) (.ref a') H Q :=
  w_neD (dp_ints h) (dp_ints h') (shaped_ints ns) (shaped_ints ns) (by
    have e : PyData.eqv (.list (ns.map PyData.int)) (.list (ns.map PyData.int)) = true := by simp only [PyData.eqv, eqvAll_ints]
    show Q (.bl (!PyData.eqv (.list (ns.map PyData.int)) (.list (ns.map PyData.int)))) H
    rw [e]; exact q)
theorem flat_ints (ns : List Int) : (ns.map V.int).all flatV = true := by
  induction ns with
  | nil => rfl
  | cons a r ih => simp only [List.map_cons, List.all_cons, ih, Bool.and_true]; rfl
theorem eqV_int (i j : Int) : eqV (.int i) (.int j) = (i == j) := rfl
theorem w_maxI {a : Addr} {ns : List Int} (h : Sq true K H a (ns.map V.int)) (hp : 0 < ns.length) (q : ∀ m, m ∈ ns → (∀ y, y ∈ ns → y ≤ m) → Q (.int m) H) : rMax K [.ref a] H Q := ⟨a, ns, rfl, h, hp, q⟩
theorem w_indexI {a : Addr} {ns : List Int} {z : Int} {j : Nat} (h : Sq true K H a (ns.map V.int)) (hj : j < ns.length) (e : nth ns (j : Nat) = z) (hno : ∀ m : Nat, m < j → nth ns (m : Nat) ≠ z) (q : Q (.int (j : Nat)) H) : rIndex K (.ref a) [.int z] H Q := by
  have hg : ∀ (m : Nat), m < ns.length → (ns.map V.int)[m]? = some (.int (nth ns (m : Nat))) := fun m hm => by
    rw [List.getElem?_map, List.getElem?_eq_getElem hm, nth_nat, List.getD_eq_getElem?_getD, List.getElem?_eq_getElem hm]
    rfl
  refine ⟨a, ns.map V.int, .int z, j, .int z, rfl, rfl, h, rfl, flat_ints ns, by rw [hg j hj, e], by rw [eqV_int]; exact beq_self_eq_true z, fun m z' hm hz => ?_, q⟩
  rw [hg m (by omega)] at hz
  cases hz
  rw [eqV_int]
  exact beq_eq_false_iff_ne.mpr (hno m hm)
end
end L2

namespace L2
open PySem PySem.Spec PyProof.Rows
/-! ### zip of two, each a list (true) or a tuple (false) -/
def ItOf (b : Bool) (h : Heap) (it a : Addr) (i : Nat) : Prop := match b with
  | true => h.IsListIter it a i
  | false => h.IsTupleIter it a i
def SrcOf (b : Bool) (h : Heap) (a : Addr) (items : Array Value) : Prop := match b with
  | true => h.IsList a items
  | false => h.IsTuple a items
theorem ItOf.at {b : Bool} {h h' : Heap} {it a : Addr} {i : Nat} (x : ItOf b h it a i) (k : ∀ o, h.get? it = some o → h'.get? it = some o) : ItOf b h' it a i := by
  cases b with
  | true => exact Heap.IsListIter.at (show h.IsListIter it a i from x) k
  | false => exact Heap.IsTupleIter.at (show h.IsTupleIter it a i from x) k
theorem ItOf.obj {b : Bool} {h : Heap} {it a : Addr} {i : Nat} (x : ItOf b h it a i) : ∃ o, h.get? it = some o ∧ ∀ v, o.data ≠ .cell v := by
  cases b with
  | true => obtain ⟨o, e, _, d⟩ := (show h.IsListIter it a i from x); exact ⟨o, e, fun v q => by rw [d] at q; cases q⟩
  | false => obtain ⟨o, e, _, d⟩ := (show h.IsTupleIter it a i from x); exact ⟨o, e, fun v q => by rw [d] at q; cases q⟩
theorem SrcOf.ne {b : Bool} {h : Heap} {a it : Addr} {items : Array Value} {b' : Bool} {a' : Addr} {i : Nat} (p : SrcOf b h a items) (q : ItOf b' h it a' i) : a ≠ it := by
  intro e
  subst e
  have hp : ∃ o, h.get? a = some o ∧ (o.cls = .type "list" ∨ o.cls = .type "tuple") := by
    cases b with
    | true => obtain ⟨o, ho, hc, _⟩ := (show h.IsList a items from p); exact ⟨o, ho, .inl hc⟩
    | false => obtain ⟨o, ho, hc, _⟩ := (show h.IsTuple a items from p); exact ⟨o, ho, .inr hc⟩
  have hq : ∃ o, h.get? a = some o ∧ (o.cls = .type "list_iterator" ∨ o.cls = .type "tuple_iterator") := by
    cases b' with
    | true => obtain ⟨o, ho, hc, _⟩ := (show h.IsListIter a a' i from q); exact ⟨o, ho, .inl hc⟩
    | false => obtain ⟨o, ho, hc, _⟩ := (show h.IsTupleIter a a' i from q); exact ⟨o, ho, .inr hc⟩
  obtain ⟨o, ho, hc⟩ := hp
  obtain ⟨o', ho', hc'⟩ := hq
  rw [ho] at ho'
  cases ho'
  rcases hc with hc | hc <;> rcases hc' with hc' | hc' <;> (rw [hc] at hc'; exact absurd hc' (by decide))
theorem Inv.src {X : Cx} {pins : List (Addr × Obj)} {σ : St} {H : Hp} {s : Shared} {b : Bool} {a : Addr} {xs : List V} (I : Inv X pins σ H s) (h : Sq b X.K H a xs) : ∃ its : List Value, Vals xs its ∧ SrcOf b s.heap a its.toArray ∧ a < s.heap.objs.size := by
  cases b with
  | true =>
    obtain ⟨its, rv, p, _⟩ := I.list h
    exact ⟨its, rv, p.isList, p.lt⟩
  | false =>
    obtain ⟨its, rv, p, _⟩ := I.tuple h
    obtain ⟨o, ho, _⟩ := id p
    exact ⟨its, rv, p, Heap.lt_size ho⟩
theorem Inv.sq_inj {X : Cx} {pins : List (Addr × Obj)} {σ : St} {H : Hp} {s : Shared} {b : Bool} {a : Addr} {xs ys : List V} (I : Inv X pins σ H s) (h : Sq b X.K H a xs) (h' : Sq b X.K H a ys) : xs = ys := by
  cases b with
  | true => exact I.list_inj h h'
  | false => exact I.tuple_inj h h'
theorem drawsOf {prog : Program} {w : World} {A : Around} (b : Bool) (hh : A.handled = none) (it a : Addr) (hne : a ≠ it) (items : Array Value) :
    Draws prog w A it [it, a] items.size (fun i v => items[i]? = some v) (fun i h => ItOf b h it a i ∧ SrcOf b h a items) := by
  cases b with
  | true => exact Draws.list hh it a hne items
  | false => exact Draws.tuple hh it a hne items
def ItzS (b1 b2 : Bool) (K : PySem.W.Frag) (a b : Addr) : It :=
  ⟨fun i H => ∃ (xs ys : List V) (x y : V), Sq b1 K H a xs ∧ Sq b2 K H b ys ∧ xs[i]? = some x ∧ ys[i]? = some y,
    fun i H v H' => ∃ T x y, v = .ref T ∧ H T = none ∧ H' = upd H T (.tup [x, y]) ∧ (∀ xs, Sq b1 K H a xs → xs[i]? = some x) ∧ ∀ ys, Sq b2 K H b ys → ys[i]? = some y,
    fun i H => ∃ xs ys : List V, Sq b1 K H a xs ∧ Sq b2 K H b ys ∧ i ≤ xs.length ∧ i ≤ ys.length ∧ (xs.length ≤ i ∨ ys.length ≤ i)⟩
theorem turn_zipS {P : Program} {w : World} {K : PySem.W.Frag} {elts : List Expr} {kk : Nat} {tpos : Pos} (b1 b2 : Bool) {a b z TI TO i1 i2 : Addr} (D : ZipSep2 z TI TO i1 i2 [i1, a] [i2, b]) :
    Turn P w K (.Tuple elts kk tpos) (ItzS b1 b2 K a b) [z, TI, TO, i1, i2] z (fun i h => IsZip h z TI TO .none ∧ IsPair h TI (.ref i1) (.ref i2) ∧ (∃ x y, IsPair h TO x y) ∧ ItOf b1 h i1 a i ∧ ItOf b2 h i2 b i) where
  mem := by simp
  obj := fun i h st c hc => by
    obtain ⟨hz, hTI, ⟨x, y, hTO⟩, h1, h2⟩ := st
    have e' : c = z ∨ c = TI ∨ c = TO ∨ c = i1 ∨ c = i2 := by simpa using hc
    rcases e' with q | q | q | q | q
    · rw [q]; exact ⟨_, hz, fun v q => nomatch q⟩
    · rw [q]; exact ⟨_, hTI, fun v q => nomatch q⟩
    · rw [q]; exact ⟨_, hTO, fun v q => nomatch q⟩
    · rw [q]; exact h1.obj
    · rw [q]; exact h2.obj
  keep := fun i h h' st k => by
    obtain ⟨hz, hTI, ⟨x, y, hTO⟩, h1, h2⟩ := st
    exact ⟨k z (by simp) _ hz, k TI (by simp) _ hTI, ⟨x, y, k TO (by simp) _ hTO⟩, h1.at fun o q => k i1 (by simp) o q, h2.at fun o q => k i2 (by simp) o q⟩
  item := by
    intro X hP hw hK hc i pins s σ H E I hf st hg
    subst hP hw hK
    obtain ⟨hz, hTI, ⟨x0, y0, hTO⟩, h1, h2⟩ := st
    obtain ⟨xs, ys, x, y, hqx, hqy, hx, hy⟩ := hg
    obtain ⟨its, rv, p, la⟩ := I.src hqx
    obtain ⟨its2, rv2, p2, lb⟩ := I.src hqy
    obtain ⟨u, hu, ru⟩ := rv.get hx
    obtain ⟨u2, hu2, ru2⟩ := rv2.get hy
    have hzl : z < s.heap.objs.size := Heap.lt_size hz
    have hl1 : i < its.toArray.size := by simpa using (List.getElem?_eq_some_iff.mp hu).1
    have hl2 : i < its2.toArray.size := by simpa using (List.getElem?_eq_some_iff.mp hu2).1
    have hin : X.A.in1.handled = none := I.ok.hd hc
    refine wpAny_pyNext_zipD2_item D (drawsOf b1 hin i1 a (p.ne h1) its.toArray) (drawsOf b2 hin i2 b (p2.ne h2) its2.toArray) hz hTI hTO ⟨h1, p⟩ ⟨h2, p2⟩ hl1 hl2 fun w1 w2 h' tk e1 e2 z' TO' st1 st2 hT hsz hk => ?_
    have ew1 : w1 = u := by
      have g1 : its.toArray[i]? = some w1 := e1
      have g2 : its.toArray[i]? = some u := by simpa using hu
      rw [g1] at g2
      exact Option.some.inj g2
    have ew2 : w2 = u2 := by
      have g1 : its2.toArray[i]? = some w2 := e2
      have g2 : its2.toArray[i]? = some u2 := by simpa using hu2
      rw [g1] at g2
      exact Option.some.inj g2
    subst ew1 ew2
    refine ⟨_, rfl, wpAny_letOwnedTupleGo_zip (s := { s with heap := h', toks := tk }) z' fun h'' z'' sb => ?_⟩
    have hT2 : h''.get? s.heap.objs.size = some { cls := .type "tuple", data := .seq #[w1, w2] } := (sb.2 _ (Nat.ne_of_gt hzl)).trans hT
    have new : ObjOk X.prog X.w (upd H s.heap.objs.size (.tup [x, y])) h'' s.heap.objs.size (.tup [x, y]) :=
      ⟨by show 2 ≤ sizeLine; decide, [w1, w2], .cons ru (.cons ru2 .nil), ⟨_, hT2, rfl, _, rfl⟩⟩
    have I1 : Inv X pins σ (upd H s.heap.objs.size (.tup [x, y])) { s with heap := h'', toks := tk } :=
      I.turnedNew (t' := tk) (ch := [z, TI, TO, i1, i2]) (fun c o hb q => (sb.2 c (fun q' => hb (by simp [q']))).trans (hk c o (fun q' => hb (by simp [q'])) (fun q' => hb (by simp [q'])) (fun q' => hb (by simp [q'])) (fun q' => hb (by simp [q'])) q)) hf (Nat.le_refl _) new
    refine ⟨.ref s.heap.objs.size, _, I1, rfl, ⟨_, x, y, rfl, I.hok.fresh (Nat.le_refl _), rfl, fun l hl => by rw [I.sq_inj hl hqx]; exact hx, fun l hl => by rw [I.sq_inj hl hqy]; exact hy⟩, ⟨z'', ?_, ⟨w1, w2, ?_⟩, ?_, ?_⟩, fun c hcm => ?_⟩
    · exact (sb.2 _ D.TIz).trans (hk _ _ D.TIz D.TITO D.TIi1 D.TIi2 hTI)
    · exact (sb.2 _ D.TOz).trans TO'
    · exact st1.1.at fun o q => (sb.2 _ (Ne.symm D.zi1)).trans q
    · exact st2.1.at fun o q => (sb.2 _ (Ne.symm D.zi2)).trans q
    · have hlt : c < s.heap.objs.size := by
        have e' : c = z ∨ c = TI ∨ c = TO ∨ c = i1 ∨ c = i2 := by simpa using hcm
        rcases e' with q | q | q | q | q
        · rw [q]; exact hzl
        · rw [q]; exact Heap.lt_size hTI
        · rw [q]; exact Heap.lt_size hTO
        · rw [q]; obtain ⟨_, e1, _⟩ := h1.obj; exact Heap.lt_size e1
        · rw [q]; obtain ⟨_, e2, _⟩ := h2.obj; exact Heap.lt_size e2
      rw [upd_ne (Nat.ne_of_lt hlt)]
      exact (hf c hcm).1
  done := by
    intro X hP hw hK hc i pins s σ H E I hf st hg
    subst hP hw hK
    obtain ⟨hz, hTI, ⟨x0, y0, hTO⟩, h1, h2⟩ := st
    obtain ⟨xs, ys, hqx, hqy, le1, le2, hend⟩ := hg
    obtain ⟨its, rv, p, _⟩ := I.src hqx
    obtain ⟨its2, rv2, p2, _⟩ := I.src hqy
    have l1 := rv.length
    have l2 := rv2.length
    have hin : X.A.in1.handled = none := I.ok.hd hc
    refine wpAny_pyNext_zipD2_end D (drawsOf b1 hin i1 a (p.ne h1) its.toArray) (drawsOf b2 hin i2 b (p2.ne h2) its2.toArray) hz hTI hTO ⟨h1, p⟩ ⟨h2, p2⟩ (by simp; omega) (by simp; omega) (by simp; omega) fun h' tk hk => ⟨rfl, ?_⟩
    exact I.turnedL (t' := tk) (ch := [z, TI, TO, i1, i2]) (fun c o hb q => hk c o (fun q' => hb (by simp [q'])) (fun q' => hb (by simp [q'])) (fun q' => hb (by simp [q'])) (fun q' => hb (by simp [q'])) q) hf
  self := fun A i s Q E st h => wpAny_pyIter_zip st.1 h
theorem begins_src (b : Bool) (a : Addr) (items : Array Value) : ∃ o, Begins (.ref a) o (fun h => SrcOf b h a items) ∧ ∀ (h : Heap) (it : Addr), h.get? it = some o → ItOf b h it a 0 := by
  cases b with
  | true => exact ⟨_, begins_list a items, fun h it e => ⟨_, e, rfl, rfl⟩⟩
  | false => exact ⟨_, begins_tuple a items, fun h it e => ⟨_, e, rfl, rfl⟩⟩
def iZipS (K : PySem.W.Frag) (ta : TA) : TI := fun σ H R => ta σ H fun vs H1 => ∃ a b, vs = [.ref a, .ref b] ∧ ∃ b1 b2 xs ys, Sq b1 K H1 a xs ∧ Sq b2 K H1 b ys ∧ R (ItzS b1 b2 K a b) H1
theorem pi_zipS {X : Cx} {e e2 : Expr} {ta : TA} {p pos tpos : Pos} {elts : List Expr} {kk : Nat} (hg : Gl X "zip") (hm : X.mg "zip" = none) (ha : PA X [e, e2] ta)
    (hs : starEach [e, e2] X.env = (false, eval e X.env) :: starEach [e2] X.env := by rfl) (hpl : (backTo pos (starEach [e2] X.env)).any (·.1) = false := by rfl) :
    PI X (.Tuple elts kk tpos) (.Call (.Name "zip" p) [e, e2] [] pos) (iZipS X.K ta) := by
  refine ⟨fun pins s σ H R I h => ?_⟩
  refine Call_ (ld_blt I hg hm PyProof.Rows.boot_zip (PyProof.Rows.callWith_type1 (thn (ha.run pos pins s σ H _ I h) fun us s1 ⟨vs, H1, I1, r1, q1⟩ => ?_) hs hpl))
  obtain ⟨a, b, ex, b1, b2, xs, ys, hqx, hqy, q⟩ := q1
  subst ex
  cases r1 with
  | cons r rr =>
    cases rr with
    | cons r' rr =>
      cases rr
      cases r
      cases r'
      obtain ⟨its, rv, p1, la⟩ := I1.src hqx
      obtain ⟨its2, rv2, p2, lb⟩ := I1.src hqy
      obtain ⟨o1, B1, k1⟩ := begins_src b1 a its.toArray
      obtain ⟨o2, B2, k2⟩ := begins_src b2 b its2.toArray
      refine zip_begins2 B1 B2 p1 p2 fun h' hz hTI hTO g1 g2 hsz hk => wpAny_pyIter_zip hz ?_
      have I2 : Inv X pins σ H1 { s1 with heap := h' } := I1.kept (t' := s1.toks) hk
      refine ⟨s1.heap.objs.size + 4, [s1.heap.objs.size + 4, s1.heap.objs.size + 2, s1.heap.objs.size + 3, s1.heap.objs.size, s1.heap.objs.size + 1], _, _, H1, rfl, I2,
        turn_zipS b1 b2 (zip_sep2 (N := s1.heap.objs.size) (fp1 := [a]) (fp2 := [b]) (fun c hc => by rw [List.mem_singleton.mp hc]; exact la) (fun c hc => by rw [List.mem_singleton.mp hc]; exact lb)), ⟨hz, hTI, ⟨_, _, hTO⟩, k1 _ _ g1, k2 _ _ g2⟩, fun c hcm => ?_, q⟩
      have e' : c = s1.heap.objs.size + 4 ∨ c = s1.heap.objs.size + 2 ∨ c = s1.heap.objs.size + 3 ∨ c = s1.heap.objs.size ∨ c = s1.heap.objs.size + 1 := by simpa using hcm
      have hle : s1.heap.objs.size ≤ c := by
        rcases e' with z | z | z | z | z
        · rw [z]; exact Nat.le_add_right _ _
        · rw [z]; exact Nat.le_add_right _ _
        · rw [z]; exact Nat.le_add_right _ _
        · rw [z]; exact Nat.le_refl _
        · rw [z]; exact Nat.le_add_right _ _
      exact I1.fpOk hle (I1.hok.fresh hle)
theorem walk_zipS {b1 b2 : Bool} {K : PySem.W.Frag} {a b : Addr} {xs ys : List V} (hn : xs.length = ys.length) : Walk (ItzS b1 b2 K a b) xs.length (fun H => Sq b1 K H a xs ∧ Sq b2 K H b ys) (YPair (fun i => xs[i]?) (fun i => ys[i]?)) := by
  refine ⟨fun i _ hi q => ?_, fun _ q => ⟨xs, ys, q.1, q.2, Nat.le_refl _, by omega, .inl (Nat.le_refl _)⟩, fun i H v H' _ q y => ?_⟩
  · exact ⟨xs, ys, xs[i], ys[i], q.1, q.2, by simp [hi], by simp [show i < ys.length by omega]⟩
  · obtain ⟨T, x, z, h1, h2, h3, h4, h5⟩ := y
    exact ⟨T, x, z, h1, h2, h3, h4 xs q.1, h5 ys q.2⟩
section
variable {K : PySem.W.Frag} {σ : St} {H : Hp} {t : TS} {D : Ends} {g : TG} {f bk ct : St → Hp → Prop} {rt : VK}
theorem w_iZipS {ta : TA} {R : It → Hp → Prop} (q : ta σ H fun vs H1 => ∃ a b, vs = [.ref a, .ref b] ∧ ∃ b1 b2 xs ys, Sq b1 K H1 a xs ∧ Sq b2 K H1 b ys ∧ R (ItzS b1 b2 K a b) H1) : iZipS K ta σ H R := q
theorem l_zip {b1 b2 : Bool} {a b : Addr} (xs ys : List V) (hn : xs.length = ys.length) (Pv : Nat → St → Hp → Prop) (hx : Sq b1 K H a xs) (hy : Sq b2 K H b ys) (h0 : Pv 0 σ H) (hG : ∀ i σ H, i ≤ xs.length → Pv i σ H → Sq b1 K H a xs ∧ Sq b2 K H b ys)
    (hs : ∀ (i : Nat) x y (T : Addr) σ' H', i < xs.length → xs[i]? = some x → ys[i]? = some y → Pv i σ' H' → H' T = none → g (.ref T) σ' (upd H' T (.tup [x, y])) fun σ2 H2 => t ⟨Pv (i + 1), rt, f, Pv (i + 1)⟩ σ2 H2) (hd : ∀ σ' H', Pv xs.length σ' H' → f σ' H') :
    ∃ a' b', [V.ref a, V.ref b] = [.ref a', .ref b'] ∧ ∃ b1 b2 xs ys, Sq b1 K H a' xs ∧ Sq b2 K H b' ys ∧ LoopOk (ItzS b1 b2 K a' b') g t ⟨f, rt, bk, ct⟩ σ H := by
  refine ⟨a, b, rfl, b1, b2, xs, ys, hx, hy, l_it (walk_zipS hn) Pv h0 hG (fun i x σ' H1 H2 hi hp hy => ?_) hd⟩
  obtain ⟨T, u, v, rfl, hT, e, hu, hv⟩ := hy
  subst e
  exact hs i u v T σ' _ hi hu hv hp hT
end

/-! ### list comprehensions -/
/-- what a comprehension asks of its walk J -/
def CompOk (J : It) (g : TG) (tt : TT) (te : TE) (vs : List Nat) (σ : St) (H1 : Hp) (Q : VK) : Prop := ∀ D, H1 D = none → ∃ W : Nat → Nat → Hp → Prop, (∃ m, W 0 m (upd H1 D (.lst []))) ∧ ∀ i m H, W i m H →
  (J.stop i H ∧ Q (.ref D) H) ∨ (J.go i H ∧ ∃ Nx : Hp → Prop, (∀ H', Nx H' → ∃ m', m' < m ∧ W (i + 1) m' H') ∧ ∀ x H', J.yld i H x H' → g x (wipe σ vs) H' fun σ2 H2 => wipe σ2 vs = wipe σ vs ∧ tt σ2 H2 fun b H3 =>
    if b = true then te σ2 H3 fun y H4 => ∃ acc, H4 D = some (.lst acc) ∧ acc.length < sizeLine ∧ Nx (upd H4 D (.lst (acc ++ [y]))) else Nx H3)
/-- the heap without what stands at D -/
def hide (D : Addr) (H : Hp) : Hp := fun b => if b = D then none else H b
theorem hide_at (D : Addr) (H : Hp) : hide D H D = none := if_pos rfl
theorem hide_ne {D b : Addr} {H : Hp} (h : b ≠ D) : hide D H b = H b := if_neg h
theorem hide_same (D : Addr) (H : Hp) : Same (hide D H) H := fun b o e => by
  by_cases h : b = D
  · subst h; rw [hide_at] at e; cases e
  · rw [hide_ne h] at e; exact e
theorem same_hide {D : Addr} {H H' : Hp} (e : Same H H') (h : H D = none) : Same H (hide D H') := fun b o q => by
  rw [hide_ne (ne_of_none q h)]
  exact e b o q
theorem hide_upd (D : Addr) (H : Hp) (o : HO) : hide D (upd H D o) = hide D H := by
  funext b
  by_cases h : b = D
  · subst h; rw [hide_at, hide_at]
  · rw [hide_ne h, hide_ne h, upd_ne h]
theorem hide_mono {D : Addr} {H H' : Hp} (e : Same H H') : Same (hide D H) (hide D H') := fun b o q => by
  by_cases h : b = D
  · subst h; rw [hide_at] at q; cases q
  · rw [hide_ne h] at q ⊢; exact e b o q
/-- no tuple, nothing frozen -/
def NTup : Option HO → Prop
  | some (.tup _) => False
  | some (.frz _ _) => False
  | _ => True
theorem NTup.lst {H : Hp} {D : Addr} {acc : List V} (h : H D = some (.lst acc)) : NTup (H D) := by rw [h]; trivial
theorem NTup.ins {H : Hp} {D C dx : Addr} {fs : List (Str × V)} (h : H D = some (.ins C dx fs)) : NTup (H D) := by rw [h]; trivial
theorem sq_hide {K : PySem.W.Frag} {D p : Addr} {H : Hp} {xs : List V} (hD : NTup (H D)) (h : Sq false K H p xs) : Sq false K (hide D H) p xs := by
  have h : SqT K H p xs := h
  rcases h with (h | ⟨o, h⟩) | h
  · exact .inl (.inl (by rw [hide_ne (fun e => by rw [← e, h] at hD; exact hD)]; exact h))
  · exact .inl (.inr ⟨o, by rw [hide_ne (fun e => by rw [← e, h] at hD; exact hD)]; exact h⟩)
  · exact .inr h
section
variable {K : PySem.W.Frag} {σ : St} {H : Hp} {tt : TT} {te : TE} {g : TG} {vs : List Nat} {Q : VK}
theorem w_lc {wi : TI} (q : wi σ H fun J H1 => CompOk J g tt te vs σ H1 Q) : tLc wi g tt te vs σ H Q := q
/-- every turn gives one item: R of the turn, the item and the heap without the new list -/
theorem l_comp {J : It} {n : Nat} {G : Hp → Prop} {Y : Nat → Hp → V → Hp → Prop} (w : Walk J n G Y) (hz : n < sizeLine) (R : Nat → V → Hp → Prop) (hR : ∀ i y H1 H2, Same H1 H2 → R i y H1 → R i y H2) (hG : ∀ H', Same H H' → G H')
    (hY : ∀ i x H1 H2, i < n → Y i H1 x H2 → Same H1 H2)
    (hs : ∀ i x H1 H2 D acc (N : VK), i < n → Same H H1 → H D = none → H1 D = some (.lst acc) → Y i H1 x H2 → Same H1 H2 → (∀ y H4, Same H2 H4 → R i y (hide D H4) → N y H4) → g x (wipe σ vs) H2 fun σ2 H3 => wipe σ2 vs = wipe σ vs ∧ te σ2 H3 N)
    (k : ∀ D H' ys, H D = none → Same H H' → H' D = some (.lst ys) → ys.length = n → (∀ (i : Nat) y, ys[i]? = some y → R i y (hide D H')) → Q (.ref D) H') : CompOk J g tYes te vs σ H Q := by
  intro D hD
  refine lc_it w (fun i H' => ∃ ys, H' D = some (.lst ys) ∧ ys.length = i ∧ Same H H' ∧ ∀ (j : Nat) y, ys[j]? = some y → R j y (hide D H')) ?_ (fun i H' _ ⟨ys, _, _, sm, _⟩ => hG H' sm) ?_ ?_
  · exact ⟨[], upd_same, rfl, Same.new hD, fun j y e => by simp at e⟩
  · rintro i x H1 H2 hi ⟨ys, e1, e2, sm, hr⟩ hy
    have s12 := hY i x H1 H2 hi hy
    refine hs i x H1 H2 D ys _ hi sm hD e1 hy s12 fun y H4 s24 r4 => ?_
    have e4 : H4 D = some (.lst ys) := s24 _ _ (s12 _ _ e1)
    refine ⟨ys, e4, by omega, ys ++ [y], upd_same, by rw [List.length_append, e2]; rfl, Same.mut ((sm.trans s12).trans s24) hD, fun j z ez => ?_⟩
    rw [hide_upd]
    by_cases hj : j < ys.length
    · rw [List.getElem?_append_left hj] at ez
      exact hR _ _ _ _ (hide_mono (s12.trans s24)) (hr j z ez)
    · have hlen := (List.getElem?_eq_some_iff.mp ez).1
      rw [List.length_append] at hlen
      have ej : j = ys.length := by
        have : j < ys.length + 1 := hlen
        omega
      subst ej
      rw [List.getElem?_append_right (Nat.le_refl _), Nat.sub_self] at ez
      have ey : y = z := Option.some.inj ez
      subst ey
      rw [e2]
      exact r4
  · rintro H' ⟨ys, e1, e2, sm, hr⟩
    exact k D H' ys hD sm e1 e2 hr
/-- over a list or a tuple -/
theorem l_compS {b : Bool} {a : Addr} {j : Nat} (xs : List V) (hx : Sq b K H a xs) (hz : xs.length < sizeLine) (R : Nat → V → Hp → Prop) (hR : ∀ i y H1 H2, Same H1 H2 → R i y H1 → R i y H2)
    (hw : ∀ x : V, wipe ((wipe σ vs).set j (some x)) vs = wipe σ vs)
    (hs : ∀ (i : Nat) x H1 D acc (N : VK), i < xs.length → xs[i]? = some x → Same H H1 → H D = none → H1 D = some (.lst acc) → (∀ y H4, Same H1 H4 → R i y (hide D H4) → N y H4) → te ((wipe σ vs).set j (some x)) H1 N)
    (k : ∀ D H' ys, H D = none → Same H H' → H' D = some (.lst ys) → ys.length = xs.length → (∀ (i : Nat) y, ys[i]? = some y → R i y (hide D H')) → Q (.ref D) H') :
    ∃ a', V.ref a = .ref a' ∧ ((∃ xs, SqL K H a' xs) ∧ CompOk (Itl K a') (gName j) tYes te vs σ H Q ∨ (∃ xs, SqT K H a' xs) ∧ CompOk (Itt K a') (gName j) tYes te vs σ H Q) := by
  refine ⟨a, rfl, ?_⟩
  cases b with
  | true =>
    refine .inl ⟨⟨xs, hx⟩, l_comp (walk_list (xs := xs)) hz R hR (fun H' sm => sm.sq (b := true) hx) (fun i x H1 H2 hi hy => by rw [hy.1]; exact Same.refl _) (fun i x H1 H2 D acc N hi sm hD e1 hy s12 hN => ?_) k⟩
    obtain ⟨e, ex⟩ := hy
    subst e
    exact ⟨hw x, hs i x _ D acc N hi ex sm hD e1 hN⟩
  | false =>
    refine .inr ⟨⟨xs, hx⟩, l_comp (walk_tup (xs := xs)) hz R hR (fun H' sm => sm.sq (b := false) hx) (fun i x H1 H2 hi hy => by rw [hy.1]; exact Same.refl _) (fun i x H1 H2 D acc N hi sm hD e1 hy s12 hN => ?_) k⟩
    obtain ⟨e, ex⟩ := hy
    subst e
    exact ⟨hw x, hs i x _ D acc N hi ex sm hD e1 hN⟩
/-- over range(n) -/
theorem l_compR {n : Int} {j : Nat} (h1 : -(2 ^ 62) ≤ n) (h2 : n < 16000000) (R : Nat → V → Hp → Prop) (hR : ∀ i y H1 H2, Same H1 H2 → R i y H1 → R i y H2)
    (hw : ∀ x : V, wipe ((wipe σ vs).set j (some x)) vs = wipe σ vs)
    (hs : ∀ (i : Nat) H1 D acc (N : VK), (i : Int) < n → Same H H1 → H D = none → H1 D = some (.lst acc) → (∀ y H4, Same H1 H4 → R i y (hide D H4) → N y H4) → te ((wipe σ vs).set j (some (.int (i : Int)))) H1 N)
    (k : ∀ D H' ys, H D = none → Same H H' → H' D = some (.lst ys) → ys.length = n.toNat → (∀ (i : Nat) y, ys[i]? = some y → R i y (hide D H')) → Q (.ref D) H') :
    ∃ j' : Int, [V.int n] = [.int j'] ∧ -(2 ^ 62) ≤ j' ∧ j' < 2 ^ 62 ∧ CompOk (Itr 0 j'.toNat) (gName j) tYes te vs σ H Q := by
  refine ⟨n, rfl, h1, by omega, l_comp (walk_range (lo := 0) (n := n.toNat)) (by rw [sizeLine_eq]; omega) R hR (fun _ _ => trivial) (fun i x H1 H2 hi hy => by rw [hy.1]; exact Same.refl _) (fun i x H1 H2 D acc N hi sm hD e1 hy s12 hN => ?_) k⟩
  obtain ⟨e, ex⟩ := hy
  subst e ex
  show wipe ((wipe σ vs).set j (some (.int (0 + (i : Int))))) vs = wipe σ vs ∧ te ((wipe σ vs).set j (some (.int (0 + (i : Int))))) _ N
  rw [Int.zero_add]
  exact ⟨hw _, hs i _ D acc N (by omega) sm hD e1 hN⟩
/-- over zip of two -/
theorem l_compZ {b1 b2 : Bool} {a b : Addr} {i1 i2 nn : Nat} (xs ys : List V) (hn : xs.length = ys.length) (hx : Sq b1 K H a xs) (hy : Sq b2 K H b ys) (hz : xs.length < sizeLine) (R : Nat → V → Hp → Prop) (hR : ∀ i y H1 H2, Same H1 H2 → R i y H1 → R i y H2) (hnn : nn = 2)
    (hw : ∀ x y : V, wipe (((wipe σ vs).set i1 (some x)).set i2 (some y)) vs = wipe σ vs)
    (hs : ∀ (i : Nat) x y H1 D acc (N : VK), i < xs.length → xs[i]? = some x → ys[i]? = some y → Same H H1 → H D = none → H1 D = some (.lst acc) → (∀ y H4, Same H1 H4 → R i y (hide D H4) → N y H4) → te (((wipe σ vs).set i1 (some x)).set i2 (some y)) H1 N)
    (k : ∀ D H' ys, H D = none → Same H H' → H' D = some (.lst ys) → ys.length = xs.length → (∀ (i : Nat) y, ys[i]? = some y → R i y (hide D H')) → Q (.ref D) H') :
    ∃ a' b', [V.ref a, V.ref b] = [.ref a', .ref b'] ∧ ∃ b1 b2 xs ys, Sq b1 K H a' xs ∧ Sq b2 K H b' ys ∧ CompOk (ItzS b1 b2 K a' b') (gTup K nn (gCons (gName i1) (gCons (gName i2) gNil))) tYes te vs σ H Q := by
  subst hnn
  refine ⟨a, b, rfl, b1, b2, xs, ys, hx, hy, l_comp (walk_zipS hn) hz R hR (fun H' sm => ⟨sm.sq hx, sm.sq hy⟩) (fun i x H1 H2 hi hy => ?_) (fun i x H1 H2 D acc N hi sm hD e1 hy s12 hN => ?_) k⟩
  · obtain ⟨T, u, v, rfl, hT, e, hu, hv⟩ := hy
    subst e
    exact Same.new hT
  · obtain ⟨T, u, v, rfl, hT, e, hu, hv⟩ := hy
    subst e
    exact w_pair (Sq.tup upd_same) ⟨hw u v, hs i u v _ D acc N hi hu hv (sm.trans s12) hD (s12 _ _ e1) hN⟩
end
end L2

namespace L2
open PySem PySem.Spec PyProof.Rows
/-! ### data over the heap: relations that new objects leave as they are -/
abbrev Rep (α : Type) := Hp → V → α → Prop
def RMono {α : Type} (R : Rep α) : Prop := ∀ H H' v x, Same H H' → R H v x → R H' v x
/-- no list in it: what stands at a list may be left out -/
def RTup {α : Type} (R : Rep α) : Prop := ∀ H D v x, NTup (H D) → R H v x → R (hide D H) v x
def RLst {α : Type} (R : Rep α) : Prop := ∀ H D v x ys, H D = some (.lst ys) → R H v x → R (hide D H) v x
theorem RTup.lst {α : Type} {R : Rep α} (h : RTup R) : RLst R := fun H D v x _ e r => h H D v x (NTup.lst e) r
def RInt : Rep Int := fun _ v i => v = .int i
/-- numbers in a list (true) or a tuple (false) -/
def RVec (b : Bool) (K : PySem.W.Frag) : Rep (List Int) := fun H v ns => ∃ a, v = .ref a ∧ Sq b K H a (ns.map V.int)
def RSeq (b : Bool) (K : PySem.W.Frag) {α : Type} (R : Rep α) : Rep (List α) := fun H v xs => ∃ a vs, v = .ref a ∧ Sq b K H a vs ∧ vs.length = xs.length ∧ ∀ (i : Nat) y x, vs[i]? = some y → xs[i]? = some x → R H y x
def RPair (K : PySem.W.Frag) {α β : Type} (R : Rep α) (S : Rep β) : Rep (α × β) := fun H v p => ∃ a x y, v = .ref a ∧ Sq false K H a [x, y] ∧ R H x p.1 ∧ S H y p.2
section
variable {K : PySem.W.Frag} {α β : Type} {R : Rep α} {S : Rep β} {b : Bool}
theorem RInt.mono : RMono RInt := fun _ _ _ _ _ h => h
theorem RInt.tup : RTup RInt := fun _ _ _ _ _ h => h
theorem RVec.mono : RMono (RVec b K) := fun _ _ _ _ s ⟨a, e, h⟩ => ⟨a, e, s.sq h⟩
theorem RVec.tup : RTup (RVec false K) := fun _ _ _ _ hD ⟨a, e, h⟩ => ⟨a, e, sq_hide hD h⟩
theorem RSeq.mono (hR : RMono R) : RMono (RSeq b K R) := fun _ _ _ _ s ⟨a, vs, e, h, hl, q⟩ => ⟨a, vs, e, s.sq h, hl, fun i y x h1 h2 => hR _ _ _ _ s (q i y x h1 h2)⟩
theorem RSeq.tup (hR : RTup R) : RTup (RSeq false K R) := fun _ _ _ _ hD ⟨a, vs, e, h, hl, q⟩ => ⟨a, vs, e, sq_hide hD h, hl, fun i y x h1 h2 => hR _ _ _ _ hD (q i y x h1 h2)⟩
theorem RPair.mono (hR : RMono R) (hS : RMono S) : RMono (RPair K R S) := fun _ _ _ _ s ⟨a, x, y, e, h, h1, h2⟩ => ⟨a, x, y, e, s.sq h, hR _ _ _ _ s h1, hS _ _ _ _ s h2⟩
theorem RPair.tup (hR : RTup R) (hS : RTup S) : RTup (RPair K R S) := fun _ _ _ _ hD ⟨a, x, y, e, h, h1, h2⟩ => ⟨a, x, y, e, sq_hide hD h, hR _ _ _ _ hD h1, hS _ _ _ _ hD h2⟩
theorem RSeq.get {H : Hp} {vs : List V} {xs : List α} (hl : vs.length = xs.length) (q : ∀ (i : Nat) y x, vs[i]? = some y → xs[i]? = some x → R H y x) {i : Nat} {x : α} (h : xs[i]? = some x) : ∃ y, vs[i]? = some y ∧ R H y x := by
  have hi := (List.getElem?_eq_some_iff.mp h).1
  exact ⟨vs[i], List.getElem?_eq_getElem (by omega), q i _ x (List.getElem?_eq_getElem (by omega)) h⟩
theorem vec_at {ns : List Int} {i : Nat} {y : V} (h : (ns.map V.int)[i]? = some y) : y = .int (nth ns (i : Nat)) ∧ i < ns.length := by
  have hi := (List.getElem?_eq_some_iff.mp h).1
  rw [List.length_map] at hi
  rw [List.getElem?_map, List.getElem?_eq_getElem hi] at h
  refine ⟨?_, hi⟩
  rw [← Option.some.inj h, nth_nat, List.getD_eq_getElem?_getD, List.getElem?_eq_getElem hi]
  rfl
theorem vec_get {ns : List Int} {i : Nat} (hi : i < ns.length) : (ns.map V.int)[i]? = some (.int (nth ns (i : Nat))) := by
  rw [List.getElem?_map, List.getElem?_eq_getElem hi, nth_nat, List.getD_eq_getElem?_getD, List.getElem?_eq_getElem hi]
  rfl
theorem vec_of {ys : List V} {ns : List Int} (hl : ys.length = ns.length) (h : ∀ (i : Nat) y, ys[i]? = some y → y = .int (nth ns (i : Nat))) : ys = ns.map V.int := by
  refine List.ext_getElem? fun i => ?_
  by_cases hi : i < ys.length
  · rw [vec_get (by omega), List.getElem?_eq_getElem hi]
    exact congrArg some (h i _ (List.getElem?_eq_getElem hi))
  · rw [List.getElem?_eq_none (by omega), List.getElem?_eq_none (by rw [List.length_map]; omega)]
end
section
variable {K : PySem.W.Frag} {σ : St} {H : Hp} {te : TE} {vs : List Nat} {Q : VK} {b b1 b2 : Bool} {a a1 a2 : Addr} {j : Nat}
/-- a comprehension that gives numbers -/
theorem c_ints (xs : List V) (hx : Sq b K H a xs) (ms : List Int) (hl : ms.length = xs.length) (hz : xs.length < sizeLine) (hw : ∀ x : V, wipe ((wipe σ vs).set j (some x)) vs = wipe σ vs)
    (hs : ∀ (i : Nat) x H1 (N : VK), i < xs.length → xs[i]? = some x → Same H H1 → (∀ H4, Same H1 H4 → N (.int (nth ms (i : Nat))) H4) → te ((wipe σ vs).set j (some x)) H1 N)
    (k : ∀ D H', H D = none → Same H H' → H' D = some (.lst (ms.map V.int)) → Q (.ref D) H') :
    ∃ a', V.ref a = .ref a' ∧ ((∃ xs, SqL K H a' xs) ∧ CompOk (Itl K a') (gName j) tYes te vs σ H Q ∨ (∃ xs, SqT K H a' xs) ∧ CompOk (Itt K a') (gName j) tYes te vs σ H Q) :=
  l_compS xs hx hz (fun i y _ => y = .int (nth ms (i : Nat))) (fun _ _ _ _ _ h => h) hw (fun i x H1 D acc N hi hxi sm hD e1 hN => hs i x H1 N hi hxi sm fun H4 s4 => hN _ H4 s4 rfl)
    (fun D H' ys hD sm e hly hr => k D H' hD sm (by rw [e, vec_of (by omega) hr]))
theorem c_intsR {n : Int} (h1 : -(2 ^ 62) ≤ n) (h2 : n < 16000000) (ms : List Int) (hl : ms.length = n.toNat) (hw : ∀ x : V, wipe ((wipe σ vs).set j (some x)) vs = wipe σ vs)
    (hs : ∀ (i : Nat) H1 (N : VK), (i : Int) < n → Same H H1 → (∀ H4, Same H1 H4 → N (.int (nth ms (i : Nat))) H4) → te ((wipe σ vs).set j (some (.int (i : Int)))) H1 N)
    (k : ∀ D H', H D = none → Same H H' → H' D = some (.lst (ms.map V.int)) → Q (.ref D) H') :
    ∃ j' : Int, [V.int n] = [.int j'] ∧ -(2 ^ 62) ≤ j' ∧ j' < 2 ^ 62 ∧ CompOk (Itr 0 j'.toNat) (gName j) tYes te vs σ H Q :=
  l_compR h1 h2 (fun i y _ => y = .int (nth ms (i : Nat))) (fun _ _ _ _ _ h => h) hw (fun i H1 D acc N hi sm hD e1 hN => hs i H1 N hi sm fun H4 s4 => hN _ H4 s4 rfl)
    (fun D H' ys hD sm e hly hr => k D H' hD sm (by rw [e, vec_of (by omega) hr]))
theorem c_intsZ {i1 i2 nn : Nat} (xs ys : List V) (hn : xs.length = ys.length) (hx : Sq b1 K H a1 xs) (hy : Sq b2 K H a2 ys) (ms : List Int) (hl : ms.length = xs.length) (hz : xs.length < sizeLine) (hnn : nn = 2)
    (hw : ∀ x y : V, wipe (((wipe σ vs).set i1 (some x)).set i2 (some y)) vs = wipe σ vs)
    (hs : ∀ (i : Nat) x y H1 (N : VK), i < xs.length → xs[i]? = some x → ys[i]? = some y → Same H H1 → (∀ H4, Same H1 H4 → N (.int (nth ms (i : Nat))) H4) → te (((wipe σ vs).set i1 (some x)).set i2 (some y)) H1 N)
    (k : ∀ D H', H D = none → Same H H' → H' D = some (.lst (ms.map V.int)) → Q (.ref D) H') :
    ∃ a' b', [V.ref a1, V.ref a2] = [.ref a', .ref b'] ∧ ∃ b1 b2 xs ys, Sq b1 K H a' xs ∧ Sq b2 K H b' ys ∧ CompOk (ItzS b1 b2 K a' b') (gTup K nn (gCons (gName i1) (gCons (gName i2) gNil))) tYes te vs σ H Q :=
  l_compZ xs ys hn hx hy hz (fun i y _ => y = .int (nth ms (i : Nat))) (fun _ _ _ _ _ h => h) hnn hw (fun i x y H1 D acc N hi hxi hyi sm hD e1 hN => hs i x y H1 N hi hxi hyi sm fun H4 s4 => hN _ H4 s4 rfl)
    (fun D H' zs hD sm e hly hr => k D H' hD sm (by rw [e, vec_of (by omega) hr]))
/-- a comprehension that gives data without the new list in them -/
theorem c_repL {α : Type} {R : Rep α} (hm : RMono R) (ht : RLst R) (xs : List V) (hx : Sq b K H a xs) (ds : List α) (hl : ds.length = xs.length) (hz : xs.length < sizeLine) (hw : ∀ x : V, wipe ((wipe σ vs).set j (some x)) vs = wipe σ vs)
    (hs : ∀ (i : Nat) x d H1 (N : VK), i < xs.length → xs[i]? = some x → ds[i]? = some d → Same H H1 → (∀ y H4, Same H1 H4 → R H4 y d → N y H4) → te ((wipe σ vs).set j (some x)) H1 N)
    (k : ∀ D H' ys, H D = none → Same H H' → H' D = some (.lst ys) → ys.length = ds.length → (∀ (i : Nat) y d, ys[i]? = some y → ds[i]? = some d → R H' y d) → Q (.ref D) H') :
    ∃ a', V.ref a = .ref a' ∧ ((∃ xs, SqL K H a' xs) ∧ CompOk (Itl K a') (gName j) tYes te vs σ H Q ∨ (∃ xs, SqT K H a' xs) ∧ CompOk (Itt K a') (gName j) tYes te vs σ H Q) :=
  l_compS xs hx hz (fun i y H' => ∀ d, ds[i]? = some d → R H' y d) (fun _ _ _ _ s h d hd => hm _ _ _ _ s (h d hd)) hw
    (fun i x H1 D acc N hi hxi sm hD e1 hN => by
      obtain ⟨d, hd⟩ : ∃ d, ds[i]? = some d := ⟨ds[i]'(by omega), List.getElem?_eq_getElem (by omega)⟩
      refine hs i x d H1 N hi hxi hd sm fun y H4 s4 r4 => hN y H4 s4 fun d' hd' => ?_
      rw [hd] at hd'
      cases hd'
      exact ht _ D _ _ _ (s4 _ _ e1) r4)
    (fun D H' ys hD sm e hly hr => k D H' ys hD sm e (by omega) fun i y d h1 h2 => hm _ _ _ _ (hide_same D H') (hr i y h1 d h2))
/-- a comprehension that gives data without lists -/
theorem c_rep {α : Type} {R : Rep α} (hm : RMono R) (ht : RTup R) (xs : List V) (hx : Sq b K H a xs) (ds : List α) (hl : ds.length = xs.length) (hz : xs.length < sizeLine) (hw : ∀ x : V, wipe ((wipe σ vs).set j (some x)) vs = wipe σ vs)
    (hs : ∀ (i : Nat) x d H1 (N : VK), i < xs.length → xs[i]? = some x → ds[i]? = some d → Same H H1 → (∀ y H4, Same H1 H4 → R H4 y d → N y H4) → te ((wipe σ vs).set j (some x)) H1 N)
    (k : ∀ D H' ys, H D = none → Same H H' → H' D = some (.lst ys) → ys.length = ds.length → (∀ (i : Nat) y d, ys[i]? = some y → ds[i]? = some d → R H' y d) → Q (.ref D) H') :
    ∃ a', V.ref a = .ref a' ∧ ((∃ xs, SqL K H a' xs) ∧ CompOk (Itl K a') (gName j) tYes te vs σ H Q ∨ (∃ xs, SqT K H a' xs) ∧ CompOk (Itt K a') (gName j) tYes te vs σ H Q) :=
  c_repL hm ht.lst xs hx ds hl hz hw hs k
theorem c_repR {α : Type} {R : Rep α} {n : Int} (hm : RMono R) (ht : RTup R) (h1 : -(2 ^ 62) ≤ n) (h2 : n < 16000000) (ds : List α) (hl : ds.length = n.toNat) (hw : ∀ x : V, wipe ((wipe σ vs).set j (some x)) vs = wipe σ vs)
    (hs : ∀ (i : Nat) d H1 (N : VK), (i : Int) < n → ds[i]? = some d → Same H H1 → (∀ y H4, Same H1 H4 → R H4 y d → N y H4) → te ((wipe σ vs).set j (some (.int (i : Int)))) H1 N)
    (k : ∀ D H' ys, H D = none → Same H H' → H' D = some (.lst ys) → ys.length = ds.length → (∀ (i : Nat) y d, ys[i]? = some y → ds[i]? = some d → R H' y d) → Q (.ref D) H') :
    ∃ j' : Int, [V.int n] = [.int j'] ∧ -(2 ^ 62) ≤ j' ∧ j' < 2 ^ 62 ∧ CompOk (Itr 0 j'.toNat) (gName j) tYes te vs σ H Q :=
  l_compR h1 h2 (fun i y H' => ∀ d, ds[i]? = some d → R H' y d) (fun _ _ _ _ s h d hd => hm _ _ _ _ s (h d hd)) hw
    (fun i H1 D acc N hi sm hD e1 hN => by
      obtain ⟨d, hd⟩ : ∃ d, ds[i]? = some d := ⟨ds[i]'(by omega), List.getElem?_eq_getElem (by omega)⟩
      refine hs i d H1 N hi hd sm fun y H4 s4 r4 => hN y H4 s4 fun d' hd' => ?_
      rw [hd] at hd'
      cases hd'
      exact ht _ D _ _ (NTup.lst (s4 _ _ e1)) r4)
    (fun D H' ys hD sm e hly hr => k D H' ys hD sm e (by omega) fun i y d h1 h2 => hm _ _ _ _ (hide_same D H') (hr i y h1 d h2))
/-- the same data twice -/
theorem RInt.sm {n : Nat} {x y : V} {i : Int} (h1 : RInt H x i) (h2 : RInt H y i) : Sm K H n x y := by
  cases h1
  cases h2
  exact Sm.int
theorem RSeq.sm {α : Type} {R S : Rep α} {n : Nat} {x y : V} {ds : List α} (hz : ds.length ≤ 100000) (hRS : ∀ x y d, d ∈ ds → R H x d → S H y d → Sm K H n x y) (h1 : RSeq false K R H x ds) (h2 : RSeq b K S H y ds) : Sm K H (n + 1) x y := by
  obtain ⟨a, xs, rfl, hx, hxl, hxr⟩ := h1
  obtain ⟨a', ys, rfl, hy, hyl, hyr⟩ := h2
  refine .inr ⟨a, a', b, xs, ys, rfl, rfl, hx, hy, by omega, by omega, fun i x' y' e1 e2 => ?_⟩
  have hi := (List.getElem?_eq_some_iff.mp e1).1
  have hd : ds[i]? = some (ds[i]'(by omega)) := List.getElem?_eq_getElem (by omega)
  exact hRS _ _ _ (List.mem_of_getElem? hd) (hxr i _ _ e1 hd) (hyr i _ _ e2 hd)
theorem RVec.sm {n : Nat} {x y : V} {ns : List Int} (hz : ns.length ≤ 100000) (h1 : RVec false K H x ns) (h2 : RVec b K H y ns) : Sm K H (n + 1) x y := by
  obtain ⟨a, rfl, hx⟩ := h1
  obtain ⟨a', rfl, hy⟩ := h2
  refine .inr ⟨a, a', b, _, _, rfl, rfl, hx, hy, rfl, by rw [List.length_map]; exact hz, fun i x' y' e1 e2 => ?_⟩
  rw [(vec_at e1).1, (vec_at e2).1]
  exact Sm.int
theorem RPair.sm {α β : Type} {R R' : Rep α} {S S' : Rep β} {n : Nat} {x y : V} {p : α × β} (hR : ∀ x y, R H x p.1 → R' H y p.1 → Sm K H n x y) (hS : ∀ x y, S H x p.2 → S' H y p.2 → Sm K H n x y) (h1 : RPair K R S H x p) (h2 : RPair K R' S' H y p) : Sm K H (n + 1) x y := by
  obtain ⟨a, x1, x2, rfl, hx, r1, r2⟩ := h1
  obtain ⟨a', y1, y2, rfl, hy, q1, q2⟩ := h2
  refine .inr ⟨a, a', false, _, _, rfl, rfl, hx, hy, rfl, by show 2 ≤ 100000; omega, fun i x' y' e1 e2 => ?_⟩
  match i, e1, e2 with
  | 0, e1, e2 => cases e1; cases e2; exact hR _ _ r1 q1
  | 1, e1, e2 => cases e1; cases e2; exact hS _ _ r2 q2
  | i + 2, e1, _ => simp at e1
end
/-! ### fields of objects -/
section
variable {K : PySem.W.Frag} {σ : St} {H : Hp} {v : V} {Q : VK} {ta : TE} {D : Ends}
theorem lk_here {f : Str} {v : V} {r : List (Str × V)} : List.lookup f ((f, v) :: r) = some v := by simp [List.lookup]
theorem lk_next {f g : Str} {v : V} {r : List (Str × V)} {o : Option V} (h : (f == g) = false) (q : List.lookup f r = o) : List.lookup f ((g, v) :: r) = o := by
  rw [List.lookup, h]; exact q
theorem pf_here {f : Str} {v u : V} {r : List (Str × V)} : putF f v ((f, u) :: r) = (f, v) :: r := by
  show (if f = f then _ else _) = _
  rw [if_pos rfl]
theorem pf_next {f g : Str} {v u : V} {r r' : List (Str × V)} (h : (g == f) = false) (q : putF f v r = r') : putF f v ((g, u) :: r) = (g, u) :: r' := by
  have hne : ¬ g = f := fun e => by rw [e] at h; simp at h
  show (if g = f then _ else (g, u) :: putF f v r) = _
  rw [if_neg hne, q]
theorem pf_nil {f : Str} {v : V} : putF f v [] = [(f, v)] := rfl
theorem w_fld {f : Str} (q : ta σ H fun x H1 => ∃ a C dx fs v, x = .ref a ∧ H1 a = some (.ins C dx fs) ∧ Cls K C ∧ NoAttr K C f ∧ fs.lookup f = some v ∧ Q v H1) : tFld K ta f σ H Q := q
theorem w_fldAt {f : Str} {p C dx : Addr} {fs : List (Str × V)} (h : H p = some (.ins C dx fs)) (c : Cls K C) (n : NoAttr K C f) (l : fs.lookup f = some v) {F : V → Prop} (q : F v) :
    ∃ a C dx fs v, V.ref p = .ref a ∧ H a = some (.ins C dx fs) ∧ Cls K C ∧ NoAttr K C f ∧ fs.lookup f = some v ∧ F v := ⟨p, C, dx, fs, v, rfl, h, c, n, l, q⟩
theorem w_sfld {f : Str} {tv : TE} {nx b' c' : St → Hp → Prop} {rt : VK} (q : tv σ H fun y H1 => ta σ H1 fun x H2 => ∃ a C dx fs, x = .ref a ∧ H2 a = some (.ins C dx fs) ∧ Cls K C ∧ NoAttr K C f ∧ fs.length < 1000 ∧ nx σ (upd H2 a (.ins C dx (putF f y fs)))) : sFld K ta tv f ⟨nx, rt, b', c'⟩ σ H := q
theorem w_sfldAt {f : Str} {p C dx : Addr} {fs fs' : List (Str × V)} {y : V} (h : H p = some (.ins C dx fs)) (c : Cls K C) (n : NoAttr K C f) (hl : fs.length < 1000) (e : putF f y fs = fs') {F : Hp → Prop} (q : F (upd H p (.ins C dx fs'))) :
    ∃ a C dx fs, V.ref p = .ref a ∧ H a = some (.ins C dx fs) ∧ Cls K C ∧ NoAttr K C f ∧ fs.length < 1000 ∧ F (upd H a (.ins C dx (putF f y fs))) := ⟨p, C, dx, fs, rfl, h, c, n, hl, by rw [e]; exact q⟩
theorem w_meth {C : Addr} {m : Str} {sp : Sp} {dvs : List V} {E : XK} {t : TA} (q : ta σ H fun x H1 => ∃ a dx fs, x = .ref a ∧ H1 a = some (.ins C dx fs) ∧ fs.lookup m = none ∧ t σ H1 fun vs H2 => sp (x :: (vs ++ dvs)) H2 Q E) : tMeth C m sp dvs E ta t σ H Q := q
theorem w_methAt {m : Str} {p C dx : Addr} {fs : List (Str × V)} {B : Prop} (h : H p = some (.ins C dx fs)) (l : fs.lookup m = none) (q : B) : ∃ a dx fs, V.ref p = .ref a ∧ H a = some (.ins C dx fs) ∧ fs.lookup m = none ∧ B := ⟨p, dx, fs, rfl, h, l, q⟩
theorem w_make {C : Addr} {sp : Sp} {dvs : List V} {E : XK} {t : TA} (q : t σ H fun vs H1 => ∀ x dx, H1 x = none → H1 dx = none → dx ≠ x → sp (.ref x :: (vs ++ dvs)) (upd (upd H1 dx (.own x)) x (.ins C dx [])) (fun v H2 => v = .non ∧ Q (.ref x) H2) E) : tMake C sp dvs E t σ H Q := q
theorem w_notInS {neg : Bool} {x : V} {p : Addr} {xs : List V} {b : Bool} (h : Sq b K H p xs) (hx : flatV x = true) (ha : xs.all flatV = true) (q : Q (.bl (if neg then !inV x xs else inV x xs)) H) : rIn K neg x (.ref p) H Q := ⟨p, xs, rfl, h.or, hx, ha, q⟩
theorem w_chain {r r' : R2} {tb tc : TE} (q : ta σ H fun x H1 => tb σ H1 fun y H2 => r x y H2 fun z H3 => ∃ k, z = .bl k ∧ if k = true then tc σ H3 fun w H4 => r' y w H4 Q else Q (.bl false) H3) : tChain r r' ta tb tc σ H Q := q
end
end L2

namespace L2
open PySem PySem.Spec PyProof.Rows
theorem RTup.upd {α : Type} {R : Rep α} (ht : RTup R) (hm : RMono R) {H : Hp} {D : Addr} {o : HO} {v : V} {x : α} (hD : NTup (H D)) (h : R H v x) : R (L2.upd H D o) v x := by
  have h1 := ht _ _ _ _ hD h
  rw [← hide_upd D H o] at h1
  exact hm _ _ _ _ (hide_same D _) h1
/-- a list that a loop fills: at D, its items relate to the data without the list itself -/
structure Filled {α : Type} (R : Rep α) (H0 H : Hp) (D : Addr) (ds : List α) : Prop where
  new : H0 D = none
  same : Same H0 H
  at_ : ∃ ys, H D = some (.lst ys) ∧ ys.length = ds.length ∧ ∀ (i : Nat) y d, ys[i]? = some y → ds[i]? = some d → R (hide D H) y d
theorem Filled.nil {α : Type} {R : Rep α} {H : Hp} {D : Addr} (h : H D = none) : Filled R H (L2.upd H D (.lst [])) D [] :=
  ⟨h, Same.new h, [], upd_same, rfl, fun i y d e => by simp at e⟩
theorem Filled.mono {α : Type} {R : Rep α} (hm : RMono R) {H0 H H' : Hp} {D : Addr} {ds : List α} (f : Filled R H0 H D ds) (s : Same H H') : Filled R H0 H' D ds := by
  obtain ⟨ys, e, hl, hr⟩ := f.at_
  exact ⟨f.new, f.same.trans s, ys, s _ _ e, hl, fun i y d h1 h2 => hm _ _ _ _ (hide_mono s) (hr i y d h1 h2)⟩
theorem Filled.push {α : Type} {R : Rep α} {H0 H : Hp} {D : Addr} {ds : List α} {d : α} {y : V} (f : Filled R H0 H D ds) (hy : R (hide D H) y d) : ∃ ys, H D = some (.lst ys) ∧ ys.length = ds.length ∧ Filled R H0 (L2.upd H D (.lst (ys ++ [y]))) D (ds ++ [d]) := by
  obtain ⟨ys, e, hl, hr⟩ := f.at_
  refine ⟨ys, e, hl, f.new, Same.mut f.same f.new, ys ++ [y], upd_same, by simp [hl], fun i y' d' h1 h2 => ?_⟩
  rw [hide_upd]
  by_cases hi : i < ys.length
  · rw [List.getElem?_append_left hi] at h1
    rw [List.getElem?_append_left (by omega)] at h2
    exact hr i y' d' h1 h2
  · have h3 := (List.getElem?_eq_some_iff.mp h1).1
    rw [List.length_append] at h3
    have ei : i = ys.length := by
      have : i < ys.length + 1 := h3
      omega
    subst ei
    rw [List.getElem?_append_right (Nat.le_refl _), Nat.sub_self] at h1
    rw [hl, List.getElem?_append_right (Nat.le_refl _), Nat.sub_self] at h2
    cases h1
    cases h2
    exact hy
theorem Filled.seq {α : Type} {R : Rep α} (hm : RMono R) {K : PySem.W.Frag} {H0 H : Hp} {D : Addr} {ds : List α} (f : Filled R H0 H D ds) : RSeq true K R H (.ref D) ds := by
  obtain ⟨ys, e, hl, hr⟩ := f.at_
  exact ⟨D, ys, rfl, Sq.lst e, hl, fun i y d h1 h2 => hm _ _ _ _ (hide_same D H) (hr i y d h1 h2)⟩
section
variable {K : PySem.W.Frag} {σ : St} {H : Hp} {N : St → Hp → Prop}
theorem w_pairG {i : Nat} {g : TG} {a : Addr} {x y : V} (h : Sq false K H a [x, y]) (q : g y (σ.set i (some x)) H N) : gTup K 2 (gCons (gName i) (gCons g gNil)) (.ref a) σ H N :=
  ⟨a, [x, y], rfl, h, rfl, x, [y], rfl, y, [], rfl, (by
    have : (fun σ' H' => gNil [] σ' H' N) = N := by
      funext σ' H'
      exact propext ⟨fun h => h.2, fun h => ⟨rfl, h⟩⟩
    rw [this]; exact q)⟩
theorem w_trip {i j k : Nat} {a : Addr} {x y z : V} (h : Sq false K H a [x, y, z]) (q : N (((σ.set i (some x)).set j (some y)).set k (some z)) H) : gTup K 3 (gCons (gName i) (gCons (gName j) (gCons (gName k) gNil))) (.ref a) σ H N :=
  ⟨a, [x, y, z], rfl, h, rfl, x, [y, z], rfl, y, [z], rfl, z, [], rfl, rfl, q⟩
theorem w_five {i1 i2 i3 i4 i5 : Nat} {a : Addr} {x1 x2 x3 x4 x5 : V} (h : Sq false K H a [x1, x2, x3, x4, x5]) (q : N (((((σ.set i1 (some x1)).set i2 (some x2)).set i3 (some x3)).set i4 (some x4)).set i5 (some x5)) H) :
    gTup K 5 (gCons (gName i1) (gCons (gName i2) (gCons (gName i3) (gCons (gName i4) (gCons (gName i5) gNil))))) (.ref a) σ H N :=
  ⟨a, [x1, x2, x3, x4, x5], rfl, h, rfl, x1, [x2, x3, x4, x5], rfl, x2, [x3, x4, x5], rfl, x3, [x4, x5], rfl, x4, [x5], rfl, x5, [], rfl, rfl, q⟩
theorem RSeq.five {α : Type} {R : Rep α} {v : V} {d0 d1 d2 d3 d4 : α} (h : RSeq false K R H v [d0, d1, d2, d3, d4]) : ∃ a x0 x1 x2 x3 x4, v = .ref a ∧ Sq false K H a [x0, x1, x2, x3, x4] ∧ R H x0 d0 ∧ R H x1 d1 ∧ R H x2 d2 ∧ R H x3 d3 ∧ R H x4 d4 := by
  obtain ⟨a, vs, e, hs, hl, hr⟩ := h
  match vs, hl with
  | [x0, x1, x2, x3, x4], _ => exact ⟨a, x0, x1, x2, x3, x4, e, hs, hr 0 _ _ rfl rfl, hr 1 _ _ rfl rfl, hr 2 _ _ rfl rfl, hr 3 _ _ rfl rfl, hr 4 _ _ rfl rfl⟩
theorem RSeq.lt {α : Type} {R : Rep α} {b : Bool} {v : V} {ds : List α} (h : RSeq b K R H v ds) : ∃ a vs, v = .ref a ∧ Sq b K H a vs ∧ vs.length = ds.length ∧ ∀ (i : Nat) y x, vs[i]? = some y → ds[i]? = some x → R H y x := h
/-- cuts of lists -/
theorem cutV_fromto {xs : List V} {a b : Nat} (h : a ≤ b) (hb : b ≤ xs.length) : cutV xs (some (a : Int)) (some (b : Int)) = (xs.drop a).take (b - a) := by
  unfold cutV
  rw [HT.sIx_nat, HT.sIx_nat, Nat.min_eq_left hb, Nat.min_eq_left (Nat.le_trans h hb)]
theorem cutV_upto {xs : List V} {b : Nat} (hb : b ≤ xs.length) : cutV xs none (some (b : Int)) = xs.take b := by
  unfold cutV
  rw [HT.sIx_none, HT.sIx_nat, Nat.min_eq_left hb, List.drop_zero, Nat.sub_zero]
theorem cutV_from {xs : List V} {a : Nat} (ha : a ≤ xs.length) : cutV xs (some (a : Int)) none = xs.drop a := by
  unfold cutV
  rw [HT.sIx_none, HT.sIx_nat, Nat.min_eq_left ha, List.take_of_length_le (by rw [List.length_drop]; omega)]
theorem w_slC {a : Addr} {xs ys : List V} {lo hi : Option Int} {Q : VK} (h : Sq true K H a xs) (e : cutV xs lo hi = ys) (q : ∀ p, H p = none → Q (.ref p) (L2.upd H p (.lst ys))) : rSlG K (.ref a) lo hi H Q :=
  .inl ⟨a, xs, rfl, h, fun p hp => by rw [e]; exact q p hp⟩
theorem cutV_int {xs : List V} {a b : Int} (h0 : 0 ≤ a) (h : a ≤ b) (hb : b ≤ xs.length) : cutV xs (some a) (some b) = (xs.drop a.toNat).take (b.toNat - a.toNat) := by
  obtain ⟨n, rfl⟩ := Int.eq_ofNat_of_zero_le h0
  obtain ⟨m, rfl⟩ := Int.eq_ofNat_of_zero_le (Int.le_trans h0 h)
  rw [Int.toNat_natCast, Int.toNat_natCast]
  exact cutV_fromto (by omega) (by omega)
theorem cutV_intTo {xs : List V} {b : Int} (h0 : 0 ≤ b) (hb : b ≤ xs.length) : cutV xs none (some b) = xs.take b.toNat := by
  obtain ⟨m, rfl⟩ := Int.eq_ofNat_of_zero_le h0
  rw [Int.toNat_natCast]
  exact cutV_upto (by omega)
/-- a cut of a list or of a tuple -/
theorem w_slAny {b : Bool} {a : Addr} {xs ys : List V} {lo hi : Option Int} {Q : VK} (h : Sq b K H a xs) (e : cutV xs lo hi = ys) (q : ∀ p H', Same H H' → Sq b K H' p ys → Q (.ref p) H') : rSlG K (.ref a) lo hi H Q := by
  cases b with
  | true => exact .inl ⟨a, xs, rfl, h, fun p hp => q _ _ (Same.new hp) (Sq.lst (by rw [upd_same, e]))⟩
  | false =>
    refine .inr ⟨a, xs, rfl, h, fun hw => ?_, fun _ p hp => q _ _ (Same.new hp) (Sq.tup (by rw [upd_same, e]))⟩
    have e2 : xs = ys := by
      rw [← e]
      unfold cutV
      rw [hw.1, hw.2, List.drop_zero, Nat.sub_zero, List.take_length]
    exact q _ _ (Same.refl _) (e2 ▸ h)
theorem rep_cut {α : Type} {R : Rep α} {vs : List V} {xs : List α} (hr : ∀ (i : Nat) y x, vs[i]? = some y → xs[i]? = some x → R H y x) (a n : Nat) : ∀ (i : Nat) y x, ((vs.drop a).take n)[i]? = some y → ((xs.drop a).take n)[i]? = some x → R H y x := fun i y x h1 h2 => by
  rw [List.getElem?_take] at h1 h2
  split at h1
  · rw [if_pos (by assumption), List.getElem?_drop] at h2
    rw [List.getElem?_drop] at h1
    exact hr _ _ _ h1 h2
  · cases h1
theorem rep_to {α : Type} {R : Rep α} {vs : List V} {xs : List α} (hr : ∀ (i : Nat) y x, vs[i]? = some y → xs[i]? = some x → R H y x) (n : Nat) : ∀ (i : Nat) y x, (vs.take n)[i]? = some y → (xs.take n)[i]? = some x → R H y x := rep_cut hr 0 n
/-- adding two lists -/
theorem w_catLL {l b : Addr} {xs zs : List V} {Q : VK} (h1 : H l = some (.lst xs)) (h2 : H b = some (.lst zs)) (hz : xs.length + zs.length ≤ sizeLine) (q : ∀ p, H p = none → Q (.ref p) (L2.upd H p (.lst (xs ++ zs)))) : rAddG K (.ref l) (.ref b) H Q :=
  .inr (.inr ⟨l, b, xs, zs, rfl, rfl, h1, h2, hz, q⟩)
end
end L2

namespace L2
open PySem PySem.Spec PyProof.Rows
/-! ### data without lists, equal to itself -/
mutual
theorem eqv_refl : ∀ d : PyData, d.canLay0 = true → PyData.eqv d d = true
  | .none, _ => by simp only [PyData.eqv]
  | .bool b, _ => by simp only [PyData.eqv, beq_self_eq_true]
  | .int i, _ => by simp only [PyData.eqv, beq_self_eq_true]
  | .str x, _ => by simp only [PyData.eqv, beq_self_eq_true]
  | .list xs, h => by
    simp only [PyData.eqv]
    exact eqvAll_refl xs (by simpa only [PyData.canLay0] using h)
  | .tuple xs, h => by
    simp only [PyData.eqv]
    exact eqvAll_refl xs (by simpa only [PyData.canLay0] using h)
  | .dict _, h => by simp only [PyData.canLay0] at h; cases h
theorem eqvAll_refl : ∀ ds : List PyData, PyData.canLayAll0 ds = true → PyData.eqvAll ds ds = true
  | [], _ => by simp only [PyData.eqvAll]
  | d :: r, h => by
    simp only [PyData.canLayAll0, Bool.and_eq_true] at h
    simp only [PyData.eqvAll, eqv_refl d h.1, eqvAll_refl r h.2, Bool.and_self]
end
/-- data of a kind: as PyData, laid, no deeper than n -/
structure Dat {α : Type} (K : PySem.W.Frag) (R : Rep α) (f : α → PyData) (n : Nat) : Prop where
  dp : ∀ H v d, R H v d → Dp K H v (f d)
  lay : ∀ d, (f d).canLay0 = true
  deep : ∀ d, (f d).depth ≤ n
theorem canLayAll_map {α : Type} {f : α → PyData} (h : ∀ d, (f d).canLay0 = true) : ∀ ds : List α, PyData.canLayAll0 (ds.map f) = true
  | [] => by simp only [List.map_nil, PyData.canLayAll0]
  | d :: r => by simp only [List.map_cons, PyData.canLayAll0, h d, canLayAll_map h r, Bool.and_self]
theorem depthAll_map {α : Type} {f : α → PyData} {n : Nat} (h : ∀ d, (f d).depth ≤ n) : ∀ ds : List α, PyData.depthAll (ds.map f) ≤ n
  | [] => by simp only [List.map_nil, PyData.depthAll]; exact Nat.zero_le _
  | d :: r => by
    simp only [List.map_cons, PyData.depthAll]
    exact Nat.max_le.mpr ⟨h d, depthAll_map h r⟩
theorem dpAll_map {α : Type} {K : PySem.W.Frag} {R : Rep α} {f : α → PyData} {H : Hp} (h : ∀ v d, R H v d → Dp K H v (f d)) : ∀ {vs : List V} {ds : List α}, vs.length = ds.length → (∀ (i : Nat) y x, vs[i]? = some y → ds[i]? = some x → R H y x) → DpAll K H vs (ds.map f)
  | [], [], _, _ => .nil
  | v :: vs, d :: ds, hl, hr => .cons (h v d (hr 0 v d rfl rfl)) (dpAll_map h (by simpa using hl) fun i y x h1 h2 => hr (i + 1) y x (by simpa using h1) (by simpa using h2))
theorem Dat.seq {α : Type} {K : PySem.W.Frag} {R : Rep α} {f : α → PyData} {n : Nat} (h : Dat K R f n) : Dat K (RSeq false K R) (fun ds => .tuple (ds.map f)) (n + 1) where
  dp := fun H v ds ⟨a, vs, e, hs, hl, hr⟩ => by subst e; exact .tup hs (dpAll_map (h.dp H) hl hr)
  lay := fun ds => by simp only [PyData.canLay0]; exact canLayAll_map h.lay ds
  deep := fun ds => by simp only [PyData.depth]; exact Nat.succ_le_succ (depthAll_map h.deep ds)
theorem Dat.vec {K : PySem.W.Frag} : Dat K (RVec false K) (fun ns => .tuple (ns.map PyData.int)) 1 where
  dp := fun H v ns ⟨a, e, hs⟩ => by subst e; exact .tup hs dpAll_ints
  lay := fun ns => by simp only [PyData.canLay0]; exact canLay_ints ns
  deep := fun ns => by simp only [PyData.depth, depth_ints]; exact Nat.le_refl _
theorem Dat.pair {α β : Type} {K : PySem.W.Frag} {R : Rep α} {S : Rep β} {f : α → PyData} {g : β → PyData} {n : Nat} (h : Dat K R f n) (h' : Dat K S g n) : Dat K (RPair K R S) (fun p => .tuple [f p.1, g p.2]) (n + 1) where
  dp := fun H v p ⟨a, x, y, e, hs, h1, h2⟩ => by subst e; exact .tup hs (.cons (h.dp _ _ _ h1) (.cons (h'.dp _ _ _ h2) .nil))
  lay := fun p => by simp only [PyData.canLay0, PyData.canLayAll0, h.lay, h'.lay, Bool.and_self]
  deep := fun p => by
    simp only [PyData.depth, PyData.depthAll]
    exact Nat.succ_le_succ (Nat.max_le.mpr ⟨h.deep _, Nat.max_le.mpr ⟨h'.deep _, Nat.zero_le _⟩⟩)
theorem Dat.up {α : Type} {K : PySem.W.Frag} {R : Rep α} {f : α → PyData} {n m : Nat} (h : Dat K R f n) (hm : n ≤ m) : Dat K R f m := ⟨h.dp, h.lay, fun d => Nat.le_trans (h.deep d) hm⟩
theorem Dat.shaped {α : Type} {K : PySem.W.Frag} {R : Rep α} {f : α → PyData} {n : Nat} (h : Dat K R f n) (hn : n ≤ 64) (d : α) : SeqAt.shaped (f d) = true := by
  unfold SeqAt.shaped
  rw [h.lay, decide_eq_true (Nat.le_trans (h.deep d) hn)]
  rfl
theorem w_neSame {α : Type} {K : PySem.W.Frag} {H : Hp} {Q : VK} {R : Rep α} {f : α → PyData} {n : Nat} (h : Dat K R f n) (hn : n ≤ 64) {x y : V} {d : α} (hx : R H x d) (hy : R H y d) (q : Q (.bl false) H) : rNeG K x y H Q :=
  w_neD (h.dp _ _ _ hx) (h.dp _ _ _ hy) (h.shaped hn d) (h.shaped hn d) (by rw [eqv_refl _ (h.lay d)]; exact q)
theorem w_eqSame {α : Type} {K : PySem.W.Frag} {H : Hp} {Q : VK} {R : Rep α} {f : α → PyData} {n : Nat} (h : Dat K R f n) (hn : n ≤ 64) {x y : V} {d : α} (hx : R H x d) (hy : R H y d) (q : Q (.bl true) H) : rEqG K x y H Q :=
  w_eqD (h.dp _ _ _ hx) (h.dp _ _ _ hy) (h.shaped hn d) (h.shaped hn d) (by rw [eqv_refl _ (h.lay d)]; exact q)
theorem sIx_neg (n d : Nat) : HT.sIx n d (some (-1)) = n - 1 := by
  show (if (-1 : Int) < 0 then ((-1 : Int) + (n : Int)).toNat else min (-1 : Int).toNat n) = n - 1
  rw [if_pos (by decide)]
  omega
theorem cutV_neg {xs : List V} : cutV xs none (some (-1)) = xs.take (xs.length - 1) := by
  unfold cutV
  rw [HT.sIx_none, sIx_neg, List.drop_zero, Nat.sub_zero]
theorem cutV_negFrom {xs : List V} : cutV xs (some (-1)) none = xs.drop (xs.length - 1) := by
  unfold cutV
  rw [HT.sIx_none, sIx_neg, List.take_of_length_le (by rw [List.length_drop]; omega)]
end L2

namespace L2
open PySem PySem.Spec PyProof.Rows
/-! ### the rules that name the written part, K said (within a comprehension's block it is told by rfl) -/
section
variable {X : Cx} {K : PySem.W.Frag} {a b : Expr} {ta tb : TE} {pos : Pos}
theorem k_addG (h : X.K = K) : OpR X (binaryOp .Add) (rAddG K) := h ▸ op_addG
theorem k_eqG (h : X.K = K) (hu : X.A.units + 64 < cLine) : OpR X (compareOp .Eq) (rEqG K) := h ▸ op_eqG hu
theorem k_neG (h : X.K = K) (hu : X.A.units + 64 < cLine) : OpR X (compareOp .NotEq) (rNeG K) := h ▸ op_neG hu
theorem k_inS (h : X.K = K) : OpR X (compareOp .In) (rIn K false) := h ▸ op_in_seq
theorem k_notInS (h : X.K = K) : OpR X (compareOp .NotIn) (rIn K true) := h ▸ op_notIn_seq
theorem k_slG (h : X.K = K) : SlR X (rSlG K) := h ▸ sl_seqG
theorem k_ix (h : X.K = K) : IxR X (rIx K) := h ▸ ix_seq
theorem k_sumS (h : X.K = K) (hc : X.calm = true) : CallR X (.builtin "sum") (rSumS K) := h ▸ cr_sumS hc
theorem k_lenS (h : X.K = K) : CallR X (.builtin "len") (rLenS K) := h ▸ cr_lenS
theorem k_listS (h : X.K = K) : CallR X (.type "list") (rListS K) := h ▸ cr_listS
theorem k_tupS (h : X.K = K) : CallR X (.type "tuple") (rTupS K) := h ▸ cr_tupS
theorem k_isi (h : X.K = K) : CallR X (.builtin "isinstance") (rIsi K) := h ▸ call_isi
theorem k_max (h : X.K = K) (hc : X.calm = true) : CallR X (.builtin "max") (rMax K) := h ▸ cr_max hc
theorem k_min (h : X.K = K) (hc : X.calm = true) : CallR X (.builtin "min") (rMin K) := h ▸ cr_min hc
theorem k_index (h : X.K = K) : MtR X "list.index" (rIndex K) := h ▸ mt_index
theorem k_tru {e : Expr} {te : TE} (h : X.K = K) (he : PE X e te) (hi : ∀ whole, isTrue e X.env whole = (do let v ← whole; standAt e.pos; holding [v] (truthy v))) : PT X e (tTru K te) := h ▸ pt_tru he hi
theorem k_fld {e : Expr} {f : Str} (h : X.K = K) (he : PE X e ta) (hb : attributeBase e f X.env (eval e X.env) = eval e X.env) : PE X (.Attribute e f pos) (tFld K ta f) := h ▸ pe_fld he hb
theorem k_sfld {o value : Expr} {f : Str} {pos' : Pos} {tv : TE} (h : X.K = K) (ha : PE X o ta) (hv : PE X value tv) (hs : swapsWith value (some (.Attribute o f pos')) pos.line X.env = pure false) : PS X (.Assign [.Attribute o f pos'] value pos) (sFld K ta tv f) := h ▸ ps_fld ha hv hs
theorem k_tup {es : List Expr} {kk : Nat} {t : TGs} {n : Nat} (h : X.K = K) (hc : X.calm = true) (hg : PGs X es t) (hn : (assignEach es X.env).length = n := by rfl) (hst : (assignEach es X.env).findIdx? (·.1) = none := by rfl) :
    PG X (.Tuple es kk pos) (gTup K n t) := h ▸ pg_tup hc hg hn hst
theorem k_seqS {tg l : Expr} {tl : TE} (h : X.K = K) (hl : PE X l tl) : PI X tg l (iSeq K tl) := h ▸ pi_seqS hl
theorem k_enumS {e : Expr} {ta : TA} {p pos tpos : Pos} {elts : List Expr} {kk : Nat} (h : X.K = K) (hg : Gl X "enumerate") (hm : X.mg "enumerate" = none) (ha : PA X [e] ta) (hs : starEach [e] X.env = [(false, eval e X.env)] := by rfl) :
    PI X (.Tuple elts kk tpos) (.Call (.Name "enumerate" p) [e] [] pos) (iEnumS K ta) := h ▸ pi_enumS hg hm ha hs
theorem k_zipS {e e2 : Expr} {ta : TA} {p pos tpos : Pos} {elts : List Expr} {kk : Nat} (h : X.K = K) (hg : Gl X "zip") (hm : X.mg "zip" = none) (ha : PA X [e, e2] ta)
    (hs : starEach [e, e2] X.env = (false, eval e X.env) :: starEach [e2] X.env := by rfl) (hpl : (backTo pos (starEach [e2] X.env)).any (·.1) = false := by rfl) :
    PI X (.Tuple elts kk tpos) (.Call (.Name "zip" p) [e, e2] [] pos) (iZipS K ta) := h ▸ pi_zipS hg hm ha hs hpl
theorem k_bm {o e : Expr} {es : List Expr} {to : TE} {t : TA} {name : Str} {apos cpos : Pos} {T id : String} {r : V → List V → Hp → VK → Prop} (h : X.K = K)
    (pa : PlainAttrs T) (slot : Slot T name id) (hty : typeOf (.builtin id) = pure (.type "method_descriptor")) (hm : MtR X id r) (ho : PE X o to) (ha : PA X (e :: es) t)
    (hbase : attributeBase o name X.env (eval o X.env) = eval o X.env := by rfl)
    (hfew : ((backTo cpos (starEach (e :: es) X.env)).all (fun x => !x.1) && (backToKw cpos (keywordEach [] X.env)).all (fun x => x.1.isSome)
      && decide ((e :: es).length + ([] : List Keyword).length + (if ([] : List Keyword).isEmpty then 0 else 1) < 30)) = true := by rfl)
    (hline : (apos.endLine == cpos.line) = true := by rfl) (hs : starEach (e :: es) X.env = (false, eval e X.env) :: starEach es X.env := by rfl) (hplain : (backTo cpos (starEach es X.env)).any (·.1) = false := by rfl) :
    PE X (.Call (.Attribute o name apos) (e :: es) [] cpos) (tBM K T r to t) := h ▸ pe_bm pa slot hty hm ho ha hbase hfew hline hs hplain
end
end L2

namespace L2
open PySem PySem.Spec PyProof.Rows
/-! ### dicts with texts as keys: read, written, made -/
theorem u1 {n : Nat} (h : n + 64 < cLine) : n + 1 < cLine := by omega
section
variable {K : PySem.W.Frag} {σ : St} {H : Hp} {v : V} {Q : VK} {td ty tv : TE} {a : Addr} {kvs kvs' : List (Key × V)} {s : Str}
theorem w_dget (q : td σ H fun x H1 => ty σ H1 fun y H2 => ∃ a v, x = .ref a ∧ DGet H2 a y (some v) ∧ Q v H2) : tDGet td ty σ H Q := q
theorem w_dgetAt (h : H a = some (.dK kvs)) (l : valV kvs (.inr s) = some v) {F : V → Prop} (q : F v) : ∃ a' v', V.ref a = .ref a' ∧ DGet H a' (.str s) (some v') ∧ F v' := ⟨a, v, rfl, by rw [← l]; exact DGet.k (k := .inr s) h, q⟩
theorem w_dput {nx b' c' : St → Hp → Prop} {rt : VK} (q : tv σ H fun v H1 => td σ H1 fun x H2 => ty σ H2 fun y H3 => ∃ a H4, x = .ref a ∧ DPut H3 a y v H4 ∧ nx σ H4) : sDPut td ty tv ⟨nx, rt, b', c'⟩ σ H := q
theorem w_dputAt (h : H a = some (.dK kvs)) (hl : kvs.length < 1000) (e : putK kvs (.inr s) v = kvs') {F : Hp → Prop} (q : F (upd H a (.dK kvs'))) : ∃ a' H4, V.ref a = .ref a' ∧ DPut H a' (.str s) v H4 ∧ F H4 :=
  ⟨a, _, rfl, DPut.k (k := .inr s) h (by rw [sizeLine_eq]; omega), by rw [e]; exact q⟩
theorem w_disp {trs : List (TE × TE)} (q : ∀ p, H p = none → tPairs trs σ (upd H p (.dK [])) fun ps H2 => H2 p = some (.dK []) ∧ ∃ kvs : List (Key × V), ps = kvs.map (fun kv => (kV kv.1, kv.2)) ∧ kvs.length ≤ 15 ∧ Q (.ref p) (upd H2 p (.dK (mergeK [] kvs)))) : tDisp trs σ H Q := q
theorem w_pair0 {Qp : List (V × V) → Hp → Prop} (q : Qp [] H) : tPairs [] σ H Qp := q
theorem w_pair1 {Qp : List (V × V) → Hp → Prop} {tk tv : TE} {r : List (TE × TE)} (q : tk σ H fun x H1 => tv σ H1 fun y H2 => tPairs r σ H2 fun ps H3 => Qp ((x, y) :: ps) H3) : tPairs ((tk, tv) :: r) σ H Qp := q
end
/-- what stands elsewhere than at t stays -/
def Fr (t : Addr) (H H' : Hp) : Prop := ∀ b o, b ≠ t → H b = some o → H' b = some o
theorem Fr.refl (t : Addr) (H : Hp) : Fr t H H := fun _ _ _ e => e
theorem Fr.trans {t : Addr} {H H' H'' : Hp} (h : Fr t H H') (h' : Fr t H' H'') : Fr t H H'' := fun b o n e => h' b o n (h b o n e)
theorem Fr.upd {t : Addr} {H H' : Hp} (h : Fr t H H') (o : HO) : Fr t H (upd H' t o) := fun b u n e => by
  rw [upd_ne n]
  exact h b u n e
theorem Fr.same {t : Addr} {H H' : Hp} (h : Same H H') : Fr t H H' := fun b o _ e => h b o e
theorem Fr.sq {t : Addr} {H H' : Hp} {b : Bool} {K : PySem.W.Frag} {a : Addr} {xs : List V} (f : Fr t H H') (ht : ∃ kvs, H t = some (.dK kvs)) (h : Sq b K H a xs) : Sq b K H' a xs := by
  obtain ⟨kvs, ht⟩ := ht
  cases b with
  | true =>
    have h : SqL K H a xs := h
    rcases h with (h | ⟨o, h⟩) | h
    · exact .inl (.inl (f _ _ (fun e => by rw [e, ht] at h; cases h) h))
    · exact .inl (.inr ⟨o, f _ _ (fun e => by rw [e, ht] at h; cases h) h⟩)
    · exact .inr h
  | false =>
    have h : SqT K H a xs := h
    rcases h with (h | ⟨o, h⟩) | h
    · exact .inl (.inl (f _ _ (fun e => by rw [e, ht] at h; cases h) h))
    · exact .inl (.inr ⟨o, f _ _ (fun e => by rw [e, ht] at h; cases h) h⟩)
    · exact .inr h
/-- the tape: its cells, place, great number, how many left, seed, turn -/
def tapeF (l : Addr) (at_ gr le se tu : Int) : List (Key × V) := [(.inr "cells", .ref l), (.inr "at", .int at_), (.inr "great", .int gr), (.inr "left", .int le), (.inr "seed", .int se), (.inr "turn", .int tu)]
def IsTape (H : Hp) (t l : Addr) : Prop := ∃ (cs : List Int) (at_ gr le se tu : Int), H t = some (.dK (tapeF l at_ gr le se tu)) ∧ H l = some (.lst (cs.map V.int)) ∧ 0 ≤ at_
theorem IsTape.same {H H' : Hp} {t l : Addr} (s : Same H H') (h : IsTape H t l) : IsTape H' t l := by
  obtain ⟨cs, a, b, c, d, e, h1, h2, h3⟩ := h
  exact ⟨cs, a, b, c, d, e, s _ _ h1, s _ _ h2, h3⟩
theorem IsTape.upd {H : Hp} {t l D : Addr} {o : HO} (h1 : D ≠ t) (h2 : D ≠ l) (h : IsTape H t l) : IsTape (upd H D o) t l := by
  obtain ⟨cs, a, b, c, d, e, g1, g2, g3⟩ := h
  exact ⟨cs, a, b, c, d, e, (upd_ne (Ne.symm h1)).trans g1, (upd_ne (Ne.symm h2)).trans g2, g3⟩
theorem val_neg {j k : Key} {u : V} {kvs : List (Key × V)} (h : ¬ j = k) : valV ((j, u) :: kvs) k = valV kvs k := valV_neg h
theorem val_pos {k : Key} {u : V} {kvs : List (Key × V)} : valV ((k, u) :: kvs) k = some u := valV_pos rfl
theorem tape_cells {l : Addr} {at_ gr le se tu : Int} : valV (tapeF l at_ gr le se tu) (.inr "cells") = some (.ref l) := val_pos
theorem tape_at {l : Addr} {at_ gr le se tu : Int} : valV (tapeF l at_ gr le se tu) (.inr "at") = some (.int at_) := (val_neg (by decide +kernel)).trans val_pos
theorem tape_great {l : Addr} {at_ gr le se tu : Int} : valV (tapeF l at_ gr le se tu) (.inr "great") = some (.int gr) := (val_neg (by decide +kernel)).trans ((val_neg (by decide +kernel)).trans val_pos)
theorem tape_left {l : Addr} {at_ gr le se tu : Int} : valV (tapeF l at_ gr le se tu) (.inr "left") = some (.int le) := (val_neg (by decide +kernel)).trans ((val_neg (by decide +kernel)).trans ((val_neg (by decide +kernel)).trans val_pos))
theorem tape_seed {l : Addr} {at_ gr le se tu : Int} : valV (tapeF l at_ gr le se tu) (.inr "seed") = some (.int se) := (val_neg (by decide +kernel)).trans ((val_neg (by decide +kernel)).trans ((val_neg (by decide +kernel)).trans ((val_neg (by decide +kernel)).trans val_pos)))
theorem tape_turn {l : Addr} {at_ gr le se tu : Int} : valV (tapeF l at_ gr le se tu) (.inr "turn") = some (.int tu) := (val_neg (by decide +kernel)).trans ((val_neg (by decide +kernel)).trans ((val_neg (by decide +kernel)).trans ((val_neg (by decide +kernel)).trans ((val_neg (by decide +kernel)).trans val_pos))))
/-- a store at a key that is there -/
def replK (kvs : List (Key × V)) (k : Key) (v : V) : List (Key × V) := kvs.map fun kv => if kv.1 = k then (kv.1, v) else kv
theorem putK_repl {kvs : List (Key × V)} {k : Key} {v u : V} (h : valV kvs k = some u) : putK kvs k v = replK kvs k v := by
  unfold putK
  rw [valV_any, h]
  rfl
theorem repl_pos {kvs : List (Key × V)} {k : Key} {v u : V} : replK ((k, u) :: kvs) k v = (k, v) :: replK kvs k v := by
  show (if k = k then _ else _) :: _ = _
  rw [if_pos rfl]; rfl
theorem repl_neg {kvs : List (Key × V)} {k j : Key} {v u : V} (h : ¬ j = k) : replK ((j, u) :: kvs) k v = (j, u) :: replK kvs k v := by
  show (if j = k then _ else _) :: _ = _
  rw [if_neg h]; rfl
theorem tape_setAt {l : Addr} {at_ gr le se tu z : Int} : putK (tapeF l at_ gr le se tu) (.inr "at") (.int z) = tapeF l z gr le se tu := by
  rw [putK_repl tape_at]; unfold tapeF
  rw [repl_neg (by decide +kernel), repl_pos, repl_neg (by decide +kernel), repl_neg (by decide +kernel), repl_neg (by decide +kernel), repl_neg (by decide +kernel)]; rfl
theorem tape_setGreat {l : Addr} {at_ gr le se tu z : Int} : putK (tapeF l at_ gr le se tu) (.inr "great") (.int z) = tapeF l at_ z le se tu := by
  rw [putK_repl tape_great]; unfold tapeF
  rw [repl_neg (by decide +kernel), repl_neg (by decide +kernel), repl_pos, repl_neg (by decide +kernel), repl_neg (by decide +kernel), repl_neg (by decide +kernel)]; rfl
theorem tape_setLeft {l : Addr} {at_ gr le se tu z : Int} : putK (tapeF l at_ gr le se tu) (.inr "left") (.int z) = tapeF l at_ gr z se tu := by
  rw [putK_repl tape_left]; unfold tapeF
  rw [repl_neg (by decide +kernel), repl_neg (by decide +kernel), repl_neg (by decide +kernel), repl_pos, repl_neg (by decide +kernel), repl_neg (by decide +kernel)]; rfl
theorem tape_setSeed {l : Addr} {at_ gr le se tu z : Int} : putK (tapeF l at_ gr le se tu) (.inr "seed") (.int z) = tapeF l at_ gr le z tu := by
  rw [putK_repl tape_seed]; unfold tapeF
  rw [repl_neg (by decide +kernel), repl_neg (by decide +kernel), repl_neg (by decide +kernel), repl_neg (by decide +kernel), repl_pos, repl_neg (by decide +kernel)]; rfl
theorem tape_setTurn {l : Addr} {at_ gr le se tu z : Int} : putK (tapeF l at_ gr le se tu) (.inr "turn") (.int z) = tapeF l at_ gr le se z := by
  rw [putK_repl tape_turn]; unfold tapeF
  rw [repl_neg (by decide +kernel), repl_neg (by decide +kernel), repl_neg (by decide +kernel), repl_neg (by decide +kernel), repl_neg (by decide +kernel), repl_pos]; rfl
theorem tape_len {l : Addr} {at_ gr le se tu : Int} : (tapeF l at_ gr le se tu).length < 1000 := by show 6 < 1000; omega
end L2

namespace L2
open PySem PySem.Spec PyProof.Rows
/-! ### o[i] += e in lists; comprehensions with any state, with or without a test -/
def rGetL : V → V → Hp → VK → Prop := fun o i H Q => ∃ p xs k x, o = .ref p ∧ i = .int k ∧ 0 ≤ k ∧ H p = some (.lst xs) ∧ xs[k.toNat]? = some x ∧ Q x H
theorem get_list {X : Cx} : PGet X rGetL := by
  intro pins s σ H o i ov iv Q I ro ri h
  obtain ⟨p, xs, k, x, rfl, rfl, h0, hp, hx, q⟩ := h
  cases ro
  obtain ⟨t, rfl⟩ := ri
  obtain ⟨its, r, pl, hz⟩ := I.list (SqL.of hp)
  obtain ⟨w, ew, rw'⟩ := r.get hx
  have h1 := (List.getElem?_eq_some_iff.mp hx).1
  rw [sizeLine_eq] at hz
  exact wpAny_getItem_list pl.isList h0 (by omega) (by simpa using ew) ⟨x, H, I, rw', q⟩
section
variable {K : PySem.W.Frag} {σ : St} {H : Hp} {tt : TT} {te : TE} {g : TG} {vs : List Nat} {Q : VK}
theorem w_augS {to ti te : TE} {tget : V → V → Hp → VK → Prop} {tip : TIp} {tset : TSet} {nx b' c' : St → Hp → Prop} {rt : VK} (q : to σ H fun o H1 => ti σ H1 fun i H2 => tget o i H2 fun x H3 => te σ H3 fun y H4 => tip x y H4 fun z H5 => tset o i z H5 fun H6 => nx σ H6) : tAugS to ti te tget tip tset ⟨nx, rt, b', c'⟩ σ H := q
theorem w_prop {C : Addr} {sp : Sp} {dvs : List V} {E : XK} {ta : TE} (q : ta σ H fun x H1 => ∃ a dx fs, x = .ref a ∧ H1 a = some (.ins C dx fs) ∧ sp (.ref a :: dvs) H1 Q E) : tProp C sp dvs E ta σ H Q := q
theorem w_propAt {p C dx : Addr} {fs : List (Str × V)} {F : Addr → Prop} (h : H p = some (.ins C dx fs)) (q : F p) : ∃ a dx fs, V.ref p = .ref a ∧ H a = some (.ins C dx fs) ∧ F a := ⟨p, dx, fs, rfl, h, q⟩
theorem w_lstRg {t : L2.St → Hp → (Int → Int → Hp → Prop) → Prop} (q : t σ H fun a b H1 => RgOk a b ∧ ∀ q, H1 q = none → Q (.ref q) (upd H1 q (.lst (rgV a b)))) : tLstRg t σ H Q := q
theorem w_tupRg {t : L2.St → Hp → (Int → Int → Hp → Prop) → Prop} (q : t σ H fun a b H1 => RgOk a b ∧ ∀ q, H1 q = none → Q (.ref q) (upd H1 q (.tup (rgV a b)))) : tTupRg t σ H Q := q
theorem w_rg1 {ta : TE} {QR : Int → Int → Hp → Prop} (q : ta σ H fun x H1 => ∃ n, x = .int n ∧ QR 0 n H1) : tRg1 ta σ H QR := q
theorem w_rg2 {ta tb : TE} {QR : Int → Int → Hp → Prop} (q : ta σ H fun x H1 => tb σ H1 fun y H2 => ∃ i j, x = .int i ∧ y = .int j ∧ QR i j H2) : tRg2 ta tb σ H QR := q
theorem w_getI {p : Addr} {ns : List Int} {k : Int} (h : H p = some (.lst (ns.map V.int))) (h0 : 0 ≤ k) (h1 : k < ns.length) (q : Q (.int (nth ns k)) H) : rGetL (.ref p) (.int k) H Q := by
  refine ⟨p, _, k, .int (nth ns k), rfl, rfl, h0, h, ?_, q⟩
  have e : k = ((k.toNat : Nat) : Int) := (Int.toNat_of_nonneg h0).symm
  rw [vec_get (ns := ns) (i := k.toNat) (by omega), ← e]
theorem l_compG {J : It} {n : Nat} {G : Hp → Prop} {Y : Nat → Hp → V → Hp → Prop} (w : Walk J n G Y) (hz : n < sizeLine) (Sv : Addr → Nat → List V → Hp → Prop) (h0 : ∀ D, H D = none → Sv D 0 [] (upd H D (.lst []))) (hG : ∀ D i acc H', Sv D i acc H' → G H')
    (hs : ∀ i x H1 H2 D acc (NT : VK) (NF : Hp → Prop), i < n → H D = none → Sv D i acc H1 → H1 D = some (.lst acc) → acc.length ≤ i → Y i H1 x H2 → (∀ y H5, H5 D = some (.lst acc) → Sv D (i + 1) (acc ++ [y]) (upd H5 D (.lst (acc ++ [y]))) → NT y H5) →
      (∀ H4, H4 D = some (.lst acc) → Sv D (i + 1) acc H4 → NF H4) → g x (wipe σ vs) H2 fun σ2 H3 => wipe σ2 vs = wipe σ vs ∧ tt σ2 H3 fun b H4 => if b = true then te σ2 H4 NT else NF H4)
    (k : ∀ D H' ys, H D = none → Sv D n ys H' → H' D = some (.lst ys) → ys.length ≤ n → Q (.ref D) H') : CompOk J g tt te vs σ H Q := by
  intro D hD
  refine lc_it w (fun i H' => ∃ acc, H' D = some (.lst acc) ∧ acc.length ≤ i ∧ Sv D i acc H') ⟨[], upd_same, Nat.le_refl _, h0 D hD⟩ (fun i H' _ ⟨acc, _, _, h⟩ => hG D i acc H' h) ?_ ?_
  · rintro i x H1 H2 hi ⟨acc, e, hl, st⟩ hy
    exact hs i x H1 H2 D acc _ _ hi hD st e hl hy (fun y H5 e5 s5 => ⟨acc, e5, Nat.lt_of_le_of_lt hl (Nat.lt_trans hi hz), acc ++ [y], upd_same, by rw [List.length_append, List.length_singleton]; omega, s5⟩) (fun H4 e4 s4 => ⟨acc, e4, by omega, s4⟩)
  · rintro H' ⟨acc, e, hl, st⟩
    exact k D H' acc hD st e hl
/-- for .. in range(n), of any state -/
theorem l_compGR {n : Int} {j : Nat} (h1 : -(2 ^ 62) ≤ n) (h2 : n < 16000000) (Sv : Addr → Nat → List V → Hp → Prop) (hw : ∀ x : V, wipe ((wipe σ vs).set j (some x)) vs = wipe σ vs) (h0 : ∀ D, H D = none → Sv D 0 [] (upd H D (.lst [])))
    (hs : ∀ (i : Nat) H1 D acc (NT : VK) (NF : Hp → Prop), (i : Int) < n → H D = none → Sv D i acc H1 → H1 D = some (.lst acc) → acc.length ≤ i → (∀ y H5, H5 D = some (.lst acc) → Sv D (i + 1) (acc ++ [y]) (upd H5 D (.lst (acc ++ [y]))) → NT y H5) →
      (∀ H4, H4 D = some (.lst acc) → Sv D (i + 1) acc H4 → NF H4) → tt ((wipe σ vs).set j (some (.int (i : Int)))) H1 fun b H4 => if b = true then te ((wipe σ vs).set j (some (.int (i : Int)))) H4 NT else NF H4)
    (k : ∀ D H' ys, H D = none → Sv D n.toNat ys H' → H' D = some (.lst ys) → ys.length ≤ n.toNat → Q (.ref D) H') :
    ∃ j' : Int, [V.int n] = [.int j'] ∧ -(2 ^ 62) ≤ j' ∧ j' < 2 ^ 62 ∧ CompOk (Itr 0 j'.toNat) (gName j) tt te vs σ H Q := by
  refine ⟨n, rfl, h1, by omega, l_compG (walk_range (lo := 0) (n := n.toNat)) (by rw [sizeLine_eq]; omega) Sv h0 (fun _ _ _ _ _ => trivial) (fun i x H1 H2 D acc NT NF hi hD st e1 hl hy hT hF => ?_) k⟩
  obtain ⟨e, ex⟩ := hy
  subst e ex
  show wipe ((wipe σ vs).set j (some (.int (0 + (i : Int))))) vs = wipe σ vs ∧ tt ((wipe σ vs).set j (some (.int (0 + (i : Int))))) _ fun b H4 => if b = true then te ((wipe σ vs).set j (some (.int (0 + (i : Int))))) H4 NT else NF H4
  rw [Int.zero_add]
  exact ⟨hw _, hs i _ D acc NT NF (by omega) hD st e1 hl hT hF⟩
/-- for .. in a list or a tuple, of any state -/
theorem l_compGS {b : Bool} {a : Addr} {j : Nat} (xs : List V) (hz : xs.length < sizeLine) (Sv : Addr → Nat → List V → Hp → Prop) (hx : Sq b K H a xs) (hw : ∀ x : V, wipe ((wipe σ vs).set j (some x)) vs = wipe σ vs) (h0 : ∀ D, H D = none → Sv D 0 [] (upd H D (.lst []))) (hG : ∀ D i acc H', Sv D i acc H' → Sq b K H' a xs)
    (hs : ∀ (i : Nat) x H1 D acc (NT : VK) (NF : Hp → Prop), i < xs.length → xs[i]? = some x → H D = none → Sv D i acc H1 → H1 D = some (.lst acc) → acc.length ≤ i → (∀ y H5, H5 D = some (.lst acc) → Sv D (i + 1) (acc ++ [y]) (upd H5 D (.lst (acc ++ [y]))) → NT y H5) →
      (∀ H4, H4 D = some (.lst acc) → Sv D (i + 1) acc H4 → NF H4) → tt ((wipe σ vs).set j (some x)) H1 fun b H4 => if b = true then te ((wipe σ vs).set j (some x)) H4 NT else NF H4)
    (k : ∀ D H' ys, H D = none → Sv D xs.length ys H' → H' D = some (.lst ys) → ys.length ≤ xs.length → Q (.ref D) H') :
    ∃ a', V.ref a = .ref a' ∧ ((∃ xs, SqL K H a' xs) ∧ CompOk (Itl K a') (gName j) tt te vs σ H Q ∨ (∃ xs, SqT K H a' xs) ∧ CompOk (Itt K a') (gName j) tt te vs σ H Q) := by
  refine ⟨a, rfl, ?_⟩
  cases b with
  | true =>
    refine .inl ⟨⟨xs, hx⟩, l_compG (walk_list (xs := xs)) hz Sv h0 hG (fun i x H1 H2 D acc NT NF hi hD st e1 hl hy hT hF => ?_) k⟩
    obtain ⟨e, ex⟩ := hy
    subst e
    exact ⟨hw _, hs i x _ D acc NT NF hi ex hD st e1 hl hT hF⟩
  | false =>
    refine .inr ⟨⟨xs, hx⟩, l_compG (walk_tup (xs := xs)) hz Sv h0 hG (fun i x H1 H2 D acc NT NF hi hD st e1 hl hy hT hF => ?_) k⟩
    obtain ⟨e, ex⟩ := hy
    subst e
    exact ⟨hw _, hs i x _ D acc NT NF hi ex hD st e1 hl hT hF⟩
end
end L2

namespace PySem.W
open PySem PySem.Calls PyProof.Rows Builtin
/-! ### == and != of instances whose class has its own __eq__ -/
section
variable {prog : Program} {w : World} {A : Around} {E : Value → Shared → Prop} {s : Shared} {K : Frag} {x C L f : Addr} {h₀ : Heap} {m : Str → Option Value} {ox : Obj} {od : Option Obj} {name : Str} {b tb : Value}
theorem ifBound_B {M : Model} {args : List Value} {id : String} {Q : Option Value → Shared → Prop} (X : K.In s.heap) (I : InstAt s.heap x ox C od) (hs : findIn K (.ref C) name = some (some (.builtin id)))
    (hb : ∀ self, bindSpecial (.builtin id) self = pure (.builtin id, [self])) (h : wpAny M A (call (.builtin id) (.ref x :: args)) (fun v => Q (some v)) E s) : wpAny M A (callSpecialIfBound? (.ref x) name args) Q E s := by
  simp only [callSpecialIfBound?, bindSpecialIfBound?]
  refine wpAny_holding (wpAny_bind (wpAny_bind (wpAny_bind (I.type.here ((looks_findIn X hs).here ?_)))))
  refine wpAny_bind (wpAny_askSetting (wpAny_ite ?_))
  have fin : wpAny M A (call (.builtin id) ([.ref x] ++ args) >>= fun v => pure (some v)) Q E s := wpAny_bind (wpAny_mono h (fun v s' h' => wpAny_pure h') fun _ _ h' => h')
  split
  · exact wpAny_bind ((Looks.of_pure (hb _)).here (wpAny_pure (by exact fin)))
  · exact wpAny_tryCatch (wpAny_bind ((Looks.of_pure (hb _)).here (wpAny_pure (by exact fin))))
theorem obj_ne {Q : Value → Shared → Prop} (hu : A.in1.units < cLine) (X : K.In s.heap) (I : InstAt s.heap x ox C od) (hm : mroIn K C (.type "object") = some true) (hs : findIn K (.ref C) "__eq__" = some (some (.ref f))) (hf : isFn K (.ref f) = true)
    (h : wpAny (model prog w) A.in1 (call (.ref f) [.ref x, b]) (fun v s' => ∃ c, v = .bool c ∧ Q (.bool (!c)) s') E s) : wpAny (model prog w) A (call (.builtin "object.__ne__") [.ref x, b]) Q E s := by
  refine wpAny_call (codeAny_call_builtin PySem.F.cmp_object.ne.plain PySem.F.cmpEntry_ne (check_slot PySem.F.cmpKind_ne PySem.F.cmpSplit_ne (I.type.andThen (looks_mroIn X hm)) (PySem.F.cmpArgs_ne _ _) ?_))
  unfold Builtin.«object.__ne__»
  refine wpAny_bind (m := slotArgs "__ne__" 1 _) (wpAny_pure ?_)
  refine wpAny_bind (m := cRoomFor _ _) (wpAny_cRoomFor hu ?_)
  refine wpAny_bind (m := callSpecialIfBound? (.ref x) (Str.ofString "__eq__") _) (ifBound_K X I hs hf (wpAny_mono h (fun r s' hq => ?_) fun _ _ y => y))
  obtain ⟨c, rfl, q⟩ := hq
  refine wpAny_bind (m := truthy (.bool _)) (wpAny_truthy_bool ?_)
  exact wpAny_pure q
theorem ne_own {Q : Value → Shared → Prop} (hu : A.units + 1 < cLine) (F : Fr h₀ L s.heap m) (X₀ : K.In h₀) (I : InstAt s.heap x ox C od) (hb : Looks (model prog w) s.heap (typeOf b) tb) (hn : notFirst K C tb = true)
    (hne : findIn K (.ref C) "__ne__" = some (some (.builtin "object.__ne__"))) (hm : mroIn K C (.type "object") = some true) (hs : findIn K (.ref C) "__eq__" = some (some (.ref f))) (hf : isFn K (.ref f) = true)
    (h : wpAny (model prog w) A.in1 (call (.ref f) [.ref x, b]) (fun v s' => ∃ c, v = .bool c ∧ Q (.bool (!c)) s') E s) : wpAny (model prog w) A (richCompare .NotEq (.ref x) b) Q E s := by
  have X := X₀.keeps F.keep
  have one : wpAny (model prog w) A (tryCompare (.ref x) (cmpInfo .NotEq).2.1 b) (fun r s' => ∃ v, r = some v ∧ Q v s') E s := by
    unfold tryCompare
    refine wpAny_bind (ifBound_B X I hne PySem.F.cmp_object.ne.bind (obj_ne (by show A.units + 1 < _; exact hu) X I hm hs hf (wpAny_mono h (fun v s' hv => ?_) fun _ _ e => e)))
    obtain ⟨c, rfl, q⟩ := hv
    exact ⟨c, rfl, wpAny_pure ⟨_, rfl, q⟩⟩
  unfold richCompare
  simp only [oneThing_ref]
  refine wpAny_holding (wpAny_bind (wpAny_cRoomFor (Nat.lt_of_succ_lt hu) ?_))
  refine wpAny_bind (I.type.here (wpAny_bind (hb.here ?_)))
  split
  · rename_i q
    have e : subIn K tb (.ref C) = some false := by
      rcases Bool.or_eq_true_iff.mp hn with e | e
      · rw [beq_iff_eq.mp e] at q; simp at q
      · exact beq_iff_eq.mp e
    refine wpAny_bind ((looks_subIn X e).here ?_)
    simp only [Bool.false_eq_true, if_false]
    refine wpAny_bind (wpAny_mono one (fun r s' z => ?_) fun _ _ e => e)
    obtain ⟨v, rfl, hq⟩ := z
    exact wpAny_pure hq
  · refine wpAny_bind (wpAny_pure ?_)
    simp only [Bool.false_eq_true, if_false]
    refine wpAny_bind (wpAny_mono one (fun r s' z => ?_) fun _ _ e => e)
    obtain ⟨v, rfl, hq⟩ := z
    exact wpAny_pure hq
end
end PySem.W
namespace L2
open PySem PySem.Spec PyProof.Rows
/-- what a class with its own == says of itself -/
structure EqOf (K : PySem.W.Frag) (C f : Addr) : Prop where
  eq : PySem.W.findIn K (.ref C) "__eq__" = some (some (.ref f))
  fn : PySem.W.isFn K (.ref f) = true
  ne : PySem.W.findIn K (.ref C) "__ne__" = some (some (.builtin "object.__ne__"))
  mro : PySem.W.mroIn K C (.type "object") = some true
/-- x == y, x an instance of the class at C: what its __eq__ (promise sp) answers, a bool -/
def rEqO (K : PySem.W.Frag) (C : Addr) (sp : Sp) : R2 := fun x y H Q => ∃ a dx fs t, x = .ref a ∧ H a = some (.ins C dx fs) ∧ TyX K H y t ∧ PySem.W.notFirst K C t = true ∧ sp [x, y] H (fun v H' => ∃ c, v = .bl c ∧ Q (.bl c) H') (fun _ _ _ => False)
def rNeO (K : PySem.W.Frag) (C : Addr) (sp : Sp) : R2 := fun x y H Q => ∃ a dx fs t, x = .ref a ∧ H a = some (.ins C dx fs) ∧ TyX K H y t ∧ PySem.W.notFirst K C t = true ∧ sp [x, y] H (fun v H' => ∃ c, v = .bl c ∧ Q (.bl (!c)) H') (fun _ _ _ => False)
section
variable {X : Cx} {CX : CXT} {C f : Addr} {fd : FuncData} {ps : List Str} {sp : Sp} {n : Nat}
theorem own_run {A : Around} {pins : List (Addr × Obj)} {σ : St} {H : Hp} {s : Shared} {Q : VK} {a : Addr} {y : V} {u : Value} (F : FnOk X.prog X.w X.K X.mg X.base CX n f fd ps sp) (hr : Room n A) (hfr : A.frames = X.A.frames) (hb : Binds X.K fd ps []) (hx : Passes CX X (fun _ _ _ => False))
    (I : Inv X pins σ H s) (ry : RelV y u) (h : sp [.ref a, y] H Q (fun _ _ _ => False)) : wpAny (model X.prog X.w) A (call (.ref f) [.ref a, u]) (EP X pins σ Q) X.xe s := by
  have e0 : Env0 X.prog X.w X.K X.mg X.base A X.stack s H := by
    have e := I.env0
    exact ⟨by rw [hfr]; exact e.frames, e.mod, e.bs, e.bsz, e.funs, e.frf, e.hok, e.bare⟩
  have hl := F.len _ _ _ _ h
  have r2 : Vals [V.ref a, y] [Value.ref a, u] := .cons rfl (.cons ry .nil)
  refine wpAny_call (codeAny_mono (F.run A X.stack s H ⟨[.ref a, u], []⟩ [.ref a, u] [.ref a, y] _ _ hr e0 (by
    have := hb s [.ref a, u] I.kIn (by simpa using hl)
    simpa using this) r2 h) fun r s' hq => ?_)
  cases r with
  | error e => exact hx pins σ H s e s' I hq
  | ok fl =>
    cases fl with
    | ret w => exact I.after hq
    | next => exact False.elim hq
    | brk => exact False.elim hq
    | cont => exact False.elim hq
theorem op_eqO (e : EqOf X.K C f) (F : FnOk X.prog X.w X.K X.mg X.base CX n f fd ps sp) (hr : Room n X.A) (hb : Binds X.K fd ps []) (hx : Passes CX X (fun _ _ _ => False)) : OpR X (compareOp .Eq) (rEqO X.K C sp) := by
  intro pins s σ H x y v u Q I rx ry hq
  obtain ⟨a, dx, fs, t, rfl, ha, ty, hn, h⟩ := hq
  obtain rfl : v = Value.ref a := rx
  obtain ⟨mA, J, _⟩ := ins_get I.hok ha
  obtain ⟨od, J, _⟩ := J.look
  obtain ⟨m, hF⟩ := I.fr
  obtain ⟨P, Z, p, _⟩ := kit_of I ry ty
  show wpAny (model X.prog X.w) X.A (richCompare .Eq (.ref a) u) (EP X pins σ Q) X.xe s
  have hu : X.A.units < cLine := by have := hr.un; omega
  refine PySem.W.cmp_K (op := .Eq) hu hF I.ok.mod.kin J (Z.ty _ _ I.kIn p) hn e.eq e.fn ?_
  refine wpAny_mono (own_run F hr rfl hb hx I ry h) (fun r s' z => ?_) fun _ _ z => z
  obtain ⟨z, H', I', rz, c, ez, q⟩ := z
  subst ez
  cases rz
  exact ⟨.bl c, H', I', rfl, q⟩
theorem op_neO (e : EqOf X.K C f) (F : FnOk X.prog X.w X.K X.mg X.base CX n f fd ps sp) (hr : Room (n + 1) X.A) (hb : Binds X.K fd ps []) (hx : Passes CX X (fun _ _ _ => False)) : OpR X (compareOp .NotEq) (rNeO X.K C sp) := by
  intro pins s σ H x y v u Q I rx ry hq
  obtain ⟨a, dx, fs, t, rfl, ha, ty, hn, h⟩ := hq
  obtain rfl : v = Value.ref a := rx
  obtain ⟨mA, J, _⟩ := ins_get I.hok ha
  obtain ⟨od, J, _⟩ := J.look
  obtain ⟨m, hF⟩ := I.fr
  obtain ⟨P, Z, p, _⟩ := kit_of I ry ty
  show wpAny (model X.prog X.w) X.A (richCompare .NotEq (.ref a) u) (EP X pins σ Q) X.xe s
  have hu : X.A.units + 1 < cLine := by have := hr.un; omega
  refine PySem.W.ne_own hu hF I.ok.mod.kin J (Z.ty _ _ I.kIn p) hn e.ne e.mro e.eq e.fn ?_
  refine wpAny_mono (own_run (A := X.A.in1) F hr.in1 rfl hb hx I ry h) (fun r s' z => ?_) fun _ _ z => z
  obtain ⟨z, H', I', rz, c, ez, q⟩ := z
  subst ez
  cases rz
  exact ⟨c, rfl, .bl (!c), H', I', rfl, q⟩
end
end L2
namespace L2
open PySem PySem.Spec PyProof.Rows
/-- what isinstance asks of an own class, and of tuples, numbers and texts beside it -/
structure OwnC (K : PySem.W.Frag) (C : Addr) : Prop where
  cls : PySem.W.findIn K (.ref C) "__class__" = some (some (.builtin "object.__class__"))
  get : PySem.W.specialIn K (.builtin "object.__class__") "__get__" = some (some (.builtin "getset_descriptor.__get__"))
  tak : PySem.W.takesIn K (.builtin "object.__class__") = some true
  mro : PySem.W.mroIn K C (.type "object") = some true
  isc : PySem.W.isClsIn K C = true
  typ : PySem.W.typeIn K (.ref C) = some (.type "type")
  sT : PySem.W.subIn K (.type "tuple") (.ref C) = some false
  sI : PySem.W.subIn K (.type "int") (.ref C) = some false
  sS : PySem.W.subIn K (.type "str") (.ref C) = some false
section
variable {K : PySem.W.Frag} {C : Addr} {H : Hp} {Q : VK} {x : V}
theorem OwnC.tyx (o : OwnC K C) (cl : Cls K C) {a dx : Addr} {fs : List (Str × V)} (h : H a = some (.ins C dx fs)) : TyX K H (.ref a) (.ref C) := .base (.ins h cl o.cls o.get o.tak o.mro)
theorem kit_self : PySem.W.kitOne K (.ref C) (.ref C) = some true := if_pos (beq_self_eq_true _)
theorem kit_no {n : String} (h1 : PySem.W.isClsIn K C = true) (h2 : PySem.W.typeIn K (.ref C) = some (.type "type")) (h : PySem.W.subIn K (.type n) (.ref C) = some false) : PySem.W.kitOne K (.type n) (.ref C) = some false := by
  have h1' : (PySem.W.clsIn K C).isSome = true := h1
  unfold PySem.W.kitOne
  rw [if_neg (by intro e; cases (beq_iff_eq.mp e))]
  show (if ((PySem.W.clsIn K C).isSome && PySem.W.typeIn K (.ref C) == some (.type "type")) = true then PySem.W.subIn K (.type n) (.ref C) else none) = some false
  rw [if_pos (by rw [h1', h2]; rfl)]
  exact h
theorem first_self : PySem.W.notFirst K C (.ref C) = true := by simp [PySem.W.notFirst]
theorem first_no {n : String} (h : PySem.W.subIn K (.type n) (.ref C) = some false) : PySem.W.notFirst K C (.type n) = true := by
  unfold PySem.W.notFirst
  rw [h]
  simp
theorem w_isOwn (o : OwnC K C) (cl : Cls K C) {a dx : Addr} {fs : List (Str × V)} (h : H a = some (.ins C dx fs)) (q : Q (.bl true) H) : rIsi K [.ref a, .ref C] H Q := ⟨_, _, _, _, _, rfl, .own C, o.tyx cl h, kit_self, q⟩
theorem w_isNot (o : OwnC K C) {n : String} (ht : TyX K H x (.type n)) (hs : PySem.W.subIn K (.type n) (.ref C) = some false) (q : Q (.bl false) H) : rIsi K [x, .ref C] H Q := ⟨_, _, _, _, _, rfl, .own C, ht, kit_no o.isc o.typ hs, q⟩
theorem w_rep {l : Addr} {xs : List V} {k : Int} (h : H l = some (.lst xs)) (h0 : 0 ≤ k) (h1 : k ≤ 1000) (hz : xs.length ≤ 1000) (q : ∀ p, H p = none → Q (.ref p) (upd H p (.lst (List.replicate k.toNat xs).flatten))) : rRep (.ref l) (.int k) H Q :=
  ⟨l, k, xs, rfl, rfl, h, by omega, by omega, by
    rw [sizeLine_eq]
    have : xs.length * k.toNat ≤ 1000 * 1000 := Nat.mul_le_mul hz (by omega)
    omega, q⟩
end
/-! ### rows of any values; rows of new lists -/
def RRw (b : Bool) (K : PySem.W.Frag) : Rep (List V) := fun H v xs => ∃ a, v = .ref a ∧ Sq b K H a xs
theorem RRw.mono {b : Bool} {K : PySem.W.Frag} : RMono (RRw b K) := fun _ _ _ _ s ⟨a, e, h⟩ => ⟨a, e, s.sq h⟩
theorem RRw.tup {K : PySem.W.Frag} : RTup (RRw false K) := fun _ _ _ _ hD ⟨a, e, h⟩ => ⟨a, e, sq_hide hD h⟩
/-- D a list of new lists: their addresses, none twice, none there before -/
def FRows (H0 H : Hp) (D : Addr) (rows : List (List V)) : Prop := ∃ ps : List Addr, H D = some (.lst (ps.map V.ref)) ∧ ps.length = rows.length ∧ ps.Nodup ∧ (∀ p ∈ ps, H0 p = none) ∧ H0 D = none ∧ D ∉ ps ∧ ∀ (i : Nat) p r, ps[i]? = some p → rows[i]? = some r → H p = some (.lst r)
section
variable {K : PySem.W.Frag} {H0 H H' : Hp} {D : Addr} {rows : List (List V)}
theorem FRows.mono (s : Same H H') (f : FRows H0 H D rows) : FRows H0 H' D rows := by
  obtain ⟨ps, h1, h2, h3, h4, h5, h6, h7⟩ := f
  exact ⟨ps, s _ _ h1, h2, h3, h4, h5, h6, fun i p r a b => s _ _ (h7 i p r a b)⟩
theorem FRows.seq (f : FRows H0 H D rows) : RSeq true K (RRw true K) H (.ref D) rows := by
  obtain ⟨ps, h1, h2, h3, h4, h5, h6, h7⟩ := f
  refine ⟨D, _, rfl, Sq.lst h1, by rw [List.length_map]; exact h2, fun i y x hy hx => ?_⟩
  rw [List.getElem?_map] at hy
  cases e : ps[i]? with
  | none => rw [e] at hy; cases hy
  | some p =>
    rw [e] at hy
    cases hy
    exact ⟨p, rfl, Sq.lst (h7 i p x e hx)⟩
/-- a store into one of the rows -/
theorem FRows.set {i : Nat} {r r' : List V} (f : FRows H0 H D rows) (hi : rows[i]? = some r) : ∃ p, (∃ ps : List Addr, H D = some (.lst (ps.map V.ref)) ∧ ps[i]? = some p) ∧ H p = some (.lst r) ∧ H0 p = none ∧ p ≠ D ∧ FRows H0 (upd H p (.lst r')) D (rows.set i r') := by
  obtain ⟨ps, h1, h2, h3, h4, h5, h6, h7⟩ := f
  have hlt := (List.getElem?_eq_some_iff.mp hi).1
  have hp : ps[i]? = some (ps[i]'(by omega)) := List.getElem?_eq_getElem (by omega)
  generalize ps[i]'(by omega) = p at hp
  have hm := List.mem_of_getElem? hp
  have hpD : p ≠ D := fun e => h6 (by rw [← e]; exact hm)
  refine ⟨p, ⟨ps, h1, hp⟩, h7 i p r hp hi, h4 p hm, hpD, ps, (upd_ne (Ne.symm hpD)).trans h1, by rw [List.length_set]; exact h2, h3, h4, h5, h6, fun j q x hq hx => ?_⟩
  rw [List.getElem?_set] at hx
  by_cases e : i = j
  · subst e
    rw [if_pos rfl, if_pos hlt] at hx
    rw [hp] at hq
    cases hq
    cases hx
    exact upd_same
  · rw [if_neg e] at hx
    have hqp : q ≠ p := fun z => e (by
      subst z
      have a := (List.getElem?_eq_some_iff.mp hp)
      have b := (List.getElem?_eq_some_iff.mp hq)
      exact (List.getElem_inj h3).mp (a.2.trans b.2.symm))
    rw [upd_ne hqp]
    exact h7 j q x hq hx
theorem map_ref_inj : ∀ {ps qs : List Addr}, ps.map V.ref = qs.map V.ref → ps = qs
  | [], [], _ => rfl
  | [], q :: qs, h => by cases h
  | p :: ps, [], h => by cases h
  | p :: ps, q :: qs, h => by
    rw [List.map_cons, List.map_cons] at h
    injection h with h1 h2
    injection h1 with h1
    rw [h1, map_ref_inj h2]
/-- a new list put behind the rows -/
theorem FRows.push {p : Addr} {r : List V} {ps : List Addr} (h1 : H D = some (.lst (ps.map V.ref))) (f : FRows H0 H D rows) (hp : H p = some (.lst r)) (h0 : H0 p = none) (hn : p ∉ ps) (hD : p ≠ D) : FRows H0 (upd H D (.lst (ps.map V.ref ++ [.ref p]))) D (rows ++ [r]) := by
  obtain ⟨ps', g1, h2, h3, h4, h5, h6, h7⟩ := f
  have e : ps' = ps := by
    rw [g1] at h1
    have h1 : ps'.map V.ref = ps.map V.ref := by
      have := Option.some.inj h1
      injection this
    exact map_ref_inj h1
  subst e
  refine ⟨ps' ++ [p], by rw [upd_same, List.map_append]; rfl, by rw [List.length_append, List.length_append, h2]; rfl, List.nodup_append.mpr ⟨h3, List.nodup_cons.mpr ⟨List.not_mem_nil, List.nodup_nil⟩, fun a ha b hb e => hn (by rw [List.mem_singleton.mp hb] at e; rw [← e]; exact ha)⟩,
    fun q hq => ?_, h5, fun hm => ?_, fun i q x hq hx => ?_⟩
  · rcases List.mem_append.mp hq with h | h
    · exact h4 q h
    · rw [List.mem_singleton.mp h]; exact h0
  · rcases List.mem_append.mp hm with h | h
    · exact h6 h
    · exact hD (List.mem_singleton.mp h).symm
  · have hq1 := (List.getElem?_eq_some_iff.mp hq).1
    rw [List.length_append] at hq1
    by_cases hlt : i < ps'.length
    · rw [List.getElem?_append_left hlt] at hq
      rw [List.getElem?_append_left (by omega)] at hx
      have hqD : q ≠ D := fun e => h6 (by rw [← e]; exact List.mem_of_getElem? hq)
      rw [upd_ne hqD]
      exact h7 i q x hq hx
    · have ei : i = ps'.length := by
        have : i < ps'.length + 1 := hq1
        omega
      subst ei
      rw [List.getElem?_append_right (Nat.le_refl _), Nat.sub_self] at hq
      rw [h2, List.getElem?_append_right (Nat.le_refl _), Nat.sub_self] at hx
      cases hq
      cases hx
      rw [upd_ne hD]
      exact hp
end
theorem line_of1 {n : Nat} (h : n ≤ 1000000) : n < sizeLine := by rw [sizeLine_eq]; omega
theorem w_tupAny {K : PySem.W.Frag} {H : Hp} {Q : VK} {b : Bool} {a : Addr} {ys : List V} (h : Sq b K H a ys) (q : ∀ p H', Same H H' → Sq false K H' p ys → Q (.ref p) H') : rTupS K [.ref a] H Q := by
  cases b with
  | true => exact w_tupL h fun p hp => q _ _ (Same.new hp) (Sq.tup upd_same)
  | false => exact w_tupT h (q _ _ (Same.refl _) h)
theorem w_catA {K : PySem.W.Frag} {H : Hp} {Q : VK} {a b : Addr} {xs ys : List V} (h1 : Sq false K H a xs) (h2 : Sq false K H b ys) (hz : xs.length + ys.length ≤ 1000000) (q : ∀ p H', Same H H' → Sq false K H' p (xs ++ ys) → Q (.ref p) H') : rCatA K (.ref a) (.ref b) H Q :=
  ⟨a, b, xs, ys, rfl, rfl, h1, h2, by rw [sizeLine_eq]; omega, fun e => q _ _ (Same.refl _) (by rw [e]; exact h2), fun _ e => q _ _ (Same.refl _) (by rw [e, List.append_nil]; exact h1), fun _ _ p hp => q _ _ (Same.new hp) (Sq.tup upd_same)⟩
theorem Fr.sqI {b : Bool} {K : PySem.W.Frag} {H H' : Hp} {t a : Addr} {xs : List V} (f : Fr t H H') (ht : ∃ C dx fs, H t = some (.ins C dx fs)) (h : Sq b K H a xs) : Sq b K H' a xs := by
  obtain ⟨C, dx, fs, ht⟩ := ht
  cases b with
  | true =>
    have h : SqL K H a xs := h
    rcases h with (h | ⟨o, h⟩) | h
    · exact .inl (.inl (f _ _ (fun e => by rw [e, ht] at h; cases h) h))
    · exact .inl (.inr ⟨o, f _ _ (fun e => by rw [e, ht] at h; cases h) h⟩)
    · exact .inr h
  | false =>
    have h : SqT K H a xs := h
    rcases h with (h | ⟨o, h⟩) | h
    · exact .inl (.inl (f _ _ (fun e => by rw [e, ht] at h; cases h) h))
    · exact .inl (.inr ⟨o, f _ _ (fun e => by rw [e, ht] at h; cases h) h⟩)
    · exact .inr h
/-- lists or tuples of lists or tuples of any values -/
def RRows (b1 b2 : Bool) (K : PySem.W.Frag) : Rep (List (List V)) := RSeq b1 K (RRw b2 K)
theorem RRows.mono {b1 b2 : Bool} {K : PySem.W.Frag} : RMono (RRows b1 b2 K) := RSeq.mono RRw.mono
theorem RRows.fr {b1 b2 : Bool} {K : PySem.W.Frag} {H H' : Hp} {t : Addr} {v : V} {rows : List (List V)} (f : Fr t H H') (ht : ∃ C dx fs, H t = some (.ins C dx fs)) (h : RRows b1 b2 K H v rows) : RRows b1 b2 K H' v rows := by
  obtain ⟨a, vs, e, h1, h2, h3⟩ := h
  exact ⟨a, vs, e, f.sqI ht h1, h2, fun i y x hy hx => by
    obtain ⟨p, e, hp⟩ := h3 i y x hy hx
    exact ⟨p, e, f.sqI ht hp⟩⟩
theorem RRows.get {b1 b2 : Bool} {K : PySem.W.Frag} {H : Hp} {v : V} {rows : List (List V)} {i : Nat} {r : List V} (h : RRows b1 b2 K H v rows) (hi : rows[i]? = some r) : ∃ a vs p, v = .ref a ∧ Sq b1 K H a vs ∧ vs.length = rows.length ∧ vs[i]? = some (.ref p) ∧ Sq b2 K H p r := by
  obtain ⟨a, vs, e, h1, h2, h3⟩ := h
  obtain ⟨y, hy, p, ep, hp⟩ := RSeq.get (R := RRw b2 K) h2 h3 hi
  subst ep
  exact ⟨a, vs, p, e, h1, h2, hy, hp⟩
theorem none_back {H H' : Hp} {p : Addr} (s : Same H H') (h : H' p = none) : H p = none := by
  cases e : H p with
  | none => rfl
  | some u => rw [s _ _ e] at h; cases h
section
variable {K : PySem.W.Frag} {σ : St} {H : Hp} {te : TE} {vs : List Nat} {Q : VK}
theorem FRows.nil {D : Addr} (hD : H D = none) : FRows H (upd H D (.lst [])) D [] := ⟨[], upd_same, rfl, List.nodup_nil, List.forall_mem_nil _, hD, List.not_mem_nil, fun i p r h => by simp at h⟩
theorem FRows.next {H0 H1 H2 : Hp} {D p : Addr} {rows : List (List V)} {r : List V} {acc : List V} (f : FRows H0 H1 D rows) (s0 : Same H0 H1) (e : H1 D = some (.lst acc)) (hp : H1 p = none) (s : Same H1 H2) (ep : H2 p = some (.lst r)) :
    H2 D = some (.lst acc) ∧ FRows H0 (upd H2 D (.lst (acc ++ [.ref p]))) D (rows ++ [r]) := by
  obtain ⟨ps, h1, h2, h3, h4, h5, h6, h7⟩ := id f
  have ea : acc = ps.map V.ref := by
    rw [h1] at e
    have e := Option.some.inj e
    injection e with e
    exact e.symm
  subst ea
  refine ⟨s _ _ e, (f.mono s).push (s _ _ h1) ep (none_back s0 hp) (fun hm => ?_) (fun e2 => by rw [e2, e] at hp; cases hp)⟩
  obtain ⟨q, hq1, hq2⟩ := List.mem_iff_getElem.mp hm
  have a1 : ps[q]? = some p := by rw [List.getElem?_eq_getElem hq1, hq2]
  have a3 := h7 q p _ a1 (List.getElem?_eq_getElem (by omega))
  rw [a3] at hp; cases hp
/-- a comprehension that gives new lists -/
theorem c_fresh {b : Bool} {a : Addr} {j : Nat} (rows : List (List V)) (xs : List V) (hx : Sq b K H a xs) (hl : rows.length = xs.length) (hz : xs.length < sizeLine) (hw : ∀ x : V, wipe ((wipe σ vs).set j (some x)) vs = wipe σ vs)
    (hs : ∀ (i : Nat) x r H1 (N : VK), i < xs.length → xs[i]? = some x → rows[i]? = some r → Same H H1 → (∀ p H2, H1 p = none → Same H1 H2 → H2 p = some (.lst r) → N (.ref p) H2) → te ((wipe σ vs).set j (some x)) H1 N)
    (k : ∀ D H', Same H H' → FRows H H' D rows → Q (.ref D) H') :
    ∃ a', V.ref a = .ref a' ∧ ((∃ xs, SqL K H a' xs) ∧ CompOk (Itl K a') (gName j) tYes te vs σ H Q ∨ (∃ xs, SqT K H a' xs) ∧ CompOk (Itt K a') (gName j) tYes te vs σ H Q) := by
  refine l_compGS (b := b) xs hz (fun D i acc H' => Same H H' ∧ FRows H H' D (rows.take i)) hx hw (fun D hD => ⟨Same.new hD, FRows.nil hD⟩) (fun D i acc H' st => st.1.sq hx) (fun i x H1 D acc NT NF hi hxi hD st e1 hal hT hF => ?_) (fun D H' ys hD st e hly => ?_)
  · obtain ⟨s1, f1⟩ := st
    have hri : rows[i]? = some (rows[i]'(by omega)) := List.getElem?_eq_getElem (by omega)
    show te _ H1 NT
    refine hs i x _ H1 NT hi hxi hri s1 fun p H2 hp s2 ep => ?_
    obtain ⟨e2, f2⟩ := f1.next s1 e1 hp s2 ep
    refine hT _ H2 e2 ⟨Same.mut (s1.trans s2) hD, ?_⟩
    rw [List.take_add_one, hri]
    exact f2
  · rw [← hl, List.take_length] at st
    exact k D H' st.1 st.2
end
theorem w_setV {H : Hp} {p : Addr} {xs : List V} {k : Int} {v : V} {N : Hp → Prop} (h : H p = some (.lst xs)) (h0 : 0 ≤ k) (h1 : k < xs.length) (q : N (upd H p (.lst (xs.set k.toNat v)))) : rSetL (.ref p) (.int k) v H N := by
  refine ⟨p, xs, k, k.toNat, rfl, rfl, h, ?_, q⟩
  unfold ixN
  rw [if_pos h0, if_pos h1]
theorem RRows.updL {K : PySem.W.Frag} {H : Hp} {q : Addr} {xs : List V} {o : HO} {v : V} {rows : List (List V)} (hq : H q = some (.lst xs)) (h : RRows false false K H v rows) : RRows false false K (upd H q o) v rows :=
  RTup.upd (RSeq.tup RRw.tup) RRows.mono (NTup.lst hq) h
/-- all keyword-only parameters written -/
theorem kbind_of {K : PySem.W.Frag} {x qual : Str} {st : Stmt} {f : Addr} {fd : FuncData} {ps ks : List Str} {n : Nat} (F : Fun K x qual st f fd)
    (h : ∀ (kV doc pm : Value) (an : Option Addr) (cdv ct : Value) (us ws : List Value), us.length = n → ws.length = ks.length → bindArgs (PySem.W.fnOf x qual (defArgs st) (defBody st) (defScope st) .none kV doc pm an cdv ct) ⟨us, ks.zip ws⟩ = pure (ps.zip (us ++ ws))) :
    KBn K fd ps n ks (fun us ws => us ++ ws) (fun vs zs => vs ++ zs) := by
  obtain ⟨oc, od, kV, doc, pm, an, cdv, ct, osl, rfl, lk, hcd⟩ := F.ex
  exact ⟨fun s us ws X l1 l2 => .of_eq (h kV doc pm an cdv ct us ws l1 l2), fun r1 r2 => r1.append r2⟩
/-- one keyword-only parameter that lacks: its default is read off -/
theorem kbind_dflt {K : PySem.W.Frag} {x qual m : Str} {st : Stmt} {f D : Addr} {oc doc pm cdv ct u : Value} {od an : Option Addr} {osl : Array (Option Value)} {ps : List Str} (n : Nat) (hn : n + 1 = ps.length)
    (l : K.lookup f = some ⟨oc, od, .func (PySem.W.fnOf x qual (defArgs st) (defBody st) (defScope st) .none (.ref D) doc pm an cdv ct), osl⟩) (hd : PySem.W.nsIn K D m = some (some u))
    (h : ∀ (us : List Value), us.length = n → KwChain D [(m, u)] (bindArgs (PySem.W.fnOf x qual (defArgs st) (defBody st) (defScope st) .none (.ref D) doc pm an cdv ct) ⟨us, []⟩) (ps.zip (us ++ [u]))) :
    Binds K (PySem.W.fnOf x qual (defArgs st) (defBody st) (defScope st) .none (.ref D) doc pm an cdv ct) ps [u] := fun s us X hlen => by
  have l2 : us.length = n := by
    rw [List.length_append] at hlen
    have : us.length + 1 = ps.length := hlen
    omega
  exact BindsTo.of_looks fun M => KwChain.looks X (fun q hq => by
    rw [List.mem_singleton.mp hq]
    exact hd) (h us l2)
section
variable {K : PySem.W.Frag} {σ : St} {H : Hp} {te : TE} {vs : List Nat} {Q : VK}
/-- a comprehension over enumerate that gives numbers -/
theorem c_intsE {b : Bool} {a : Addr} {i1 i2 : Nat} (xs : List V) (hx : Sq b K H a xs) (ms : List Int) (hl : ms.length = xs.length) (hz : xs.length < sizeLine) (hw : ∀ x y : V, wipe (((wipe σ vs).set i1 (some x)).set i2 (some y)) vs = wipe σ vs)
    (hs : ∀ (i : Nat) x H1 (N : VK), i < xs.length → xs[i]? = some x → Same H H1 → (∀ H4, Same H1 H4 → N (.int (nth ms (i : Nat))) H4) → te (((wipe σ vs).set i1 (some (.int (i : Int)))).set i2 (some x)) H1 N)
    (k : ∀ D H', H D = none → Same H H' → H' D = some (.lst (ms.map V.int)) → Q (.ref D) H') :
    ∃ a', [V.ref a] = [.ref a'] ∧ ((∃ xs, SqL K H a' xs) ∧ CompOk (Ite K a') (gTup K 2 (gCons (gName i1) (gCons (gName i2) gNil))) tYes te vs σ H Q ∨ (∃ xs, SqT K H a' xs) ∧ CompOk (IteT K a') (gTup K 2 (gCons (gName i1) (gCons (gName i2) gNil))) tYes te vs σ H Q) := by
  have body : ∀ (i : Nat) (v : V) H1 (T D : Addr) acc (NT : VK), i < xs.length → xs[i]? = some v → H D = none → (Same H H1 ∧ acc.length = i ∧ ∀ (j : Nat) y, acc[j]? = some y → y = .int (nth ms (j : Nat))) → H1 D = some (.lst acc) → H1 T = none →
      (∀ y H5, H5 D = some (.lst acc) → (Same H (upd H5 D (.lst (acc ++ [y]))) ∧ (acc ++ [y]).length = i + 1 ∧ ∀ (j : Nat) z, (acc ++ [y])[j]? = some z → z = .int (nth ms (j : Nat))) → NT y H5) →
      te (((wipe σ vs).set i1 (some (.int (i : Int)))).set i2 (some v)) (upd H1 T (.tup [.int (i : Int), v])) NT := fun i v H1 T D acc NT hi hv hD st e1 hT hN => by
    obtain ⟨s1, hal, hac⟩ := st
    have sT := s1.trans (Same.new (o := .tup [.int (i : Int), v]) hT)
    refine hs i v _ NT hi hv sT fun H4 s4 => hN _ H4 (s4 _ _ (Same.new hT _ _ e1)) ⟨Same.mut (sT.trans s4) hD, by rw [List.length_append, hal]; rfl, fun j z hj => ?_⟩
    by_cases hlt : j < acc.length
    · rw [List.getElem?_append_left hlt] at hj
      exact hac j z hj
    · have h1 := (List.getElem?_eq_some_iff.mp hj).1
      rw [List.length_append] at h1
      have ej : j = acc.length := by
        have : j < acc.length + 1 := h1
        omega
      subst ej
      rw [List.getElem?_append_right (Nat.le_refl _), Nat.sub_self] at hj
      cases hj
      rw [hal]
  refine ⟨a, rfl, ?_⟩
  cases b with
  | true =>
    refine .inl ⟨⟨xs, hx⟩, l_compG (walk_enum (xs := xs)) hz (fun D i acc H' => Same H H' ∧ acc.length = i ∧ ∀ (j : Nat) y, acc[j]? = some y → y = .int (nth ms (j : Nat))) (fun D hD => ⟨Same.new hD, rfl, fun j y e => by simp at e⟩) (fun D i acc H' st => st.1.sq hx) (fun i x H1 H2 D acc NT NF hi hD st e1 hal hy hT hF => ?_) (fun D H' ys hD st e hly => ?_)⟩
    · obtain ⟨T, u, v, rfl, hTn, e, hu, hv⟩ := hy
      cases hu
      subst e
      refine w_pair (Sq.tup upd_same) ⟨hw _ _, ?_⟩
      show te _ _ NT
      exact body i v H1 T D acc NT hi hv hD st e1 hTn hT
    · exact k D H' hD st.1 (by rw [e, vec_of (by omega) st.2.2])
  | false =>
    refine .inr ⟨⟨xs, hx⟩, l_compG (walk_enumT (xs := xs)) hz (fun D i acc H' => Same H H' ∧ acc.length = i ∧ ∀ (j : Nat) y, acc[j]? = some y → y = .int (nth ms (j : Nat))) (fun D hD => ⟨Same.new hD, rfl, fun j y e => by simp at e⟩) (fun D i acc H' st => st.1.sq hx) (fun i x H1 H2 D acc NT NF hi hD st e1 hal hy hT hF => ?_) (fun D H' ys hD st e hly => ?_)⟩
    · obtain ⟨T, u, v, rfl, hTn, e, hu, hv⟩ := hy
      cases hu
      subst e
      refine w_pair (Sq.tup upd_same) ⟨hw _ _, ?_⟩
      show te _ _ NT
      exact body i v H1 T D acc NT hi hv hD st e1 hTn hT
    · exact k D H' hD st.1 (by rw [e, vec_of (by omega) st.2.2])
end
end L2

namespace L2
open PySem PySem.Spec PyProof.Rows
/-! ### methods of lists without arguments -/
section
variable {X : Cx} {K : PySem.W.Frag}
theorem k_bm0 {o : Expr} {to : TE} {name : Str} {apos cpos : Pos} {T id : String} {r : V → List V → Hp → VK → Prop} (h : X.K = K)
    (pa : PlainAttrs T) (slot : Slot T name id) (hty : typeOf (.builtin id) = pure (.type "method_descriptor")) (hm : MtM X id r) (ho : PE X o to)
    (hbase : attributeBase o name X.env (eval o X.env) = eval o X.env := by rfl)
    (hline : (apos.endLine == cpos.line) = true := by rfl) :
    PE X (.Call (.Attribute o name apos) [] [] cpos) (tBM0 K T r to) := h ▸ pe_bm0 pa slot hty hm ho hbase hline
theorem w_bm0 {T : String} {r : V → List V → Hp → VK → Prop} {to : TE} {σ : L2.St} {H : Hp} {Q : VK} (q : to σ H fun x H1 => tyV K T x H1 ∧ r x [] H1 Q) : tBM0 K T r to σ H Q := q
theorem w_pop {H : Hp} {Q : VK} {l : Addr} {ns : List Int} (h : H l = some (.lst (ns.map V.int))) (hp : 0 < ns.length) (q : Q (.int (nth ns ((ns.length - 1 : Nat) : Int))) (upd H l (.lst (ns.dropLast.map V.int)))) : rPop (.ref l) [] H Q :=
  ⟨l, ns.map V.int, .int (nth ns ((ns.length - 1 : Nat) : Int)), rfl, rfl, h, by rw [List.length_map, vec_get (by omega)], by rw [← List.map_dropLast]; exact q⟩
theorem w_reverse {H : Hp} {Q : VK} {l : Addr} {ns : List Int} (h : H l = some (.lst (ns.map V.int))) (q : Q .non (upd H l (.lst (ns.reverse.map V.int)))) : rReverse (.ref l) [] H Q :=
  ⟨l, ns.map V.int, rfl, rfl, h, by rw [← List.map_reverse]; exact q⟩
end
end L2

namespace L2
open PySem PySem.Spec PyProof.Rows
/-! ### x + y, x - y, x * y of two instances of a class, by its own method -/
structure BinOf (K : PySem.W.Frag) (C f : Addr) (nm : Str) : Prop where
  at_ : PySem.W.findIn K (.ref C) nm = some (some (.ref f))
  fn : PySem.W.isFn K (.ref f) = true
  sf : PySem.W.selfFirst K C = true
def rBinO (C : Addr) (sp : Sp) : R2 := fun x y H Q => ∃ a dx fs b dy gs, x = .ref a ∧ y = .ref b ∧ H a = some (.ins C dx fs) ∧ H b = some (.ins C dy gs) ∧ sp [x, y] H (fun v H' => (∃ p, v = .ref p) ∧ Q v H') (fun _ _ _ => False)
theorem op_binO {X : Cx} {CX : CXT} {C f : Addr} {fd : FuncData} {ps : List Str} {sp : Sp} {n : Nat} {op : Operator} {nm : Str} (e : BinOf X.K C f nm) (F : FnOk X.prog X.w X.K X.mg X.base CX n f fd ps sp) (hr : Room n X.A) (hb : Binds X.K fd ps []) (hx : Passes CX X (fun _ _ _ => False)) (hn : PySem.dunder op.info.2 = nm := by rfl) :
    OpR X (binaryOp op) (rBinO C sp) := by
  intro pins s σ H x y v u Q I rx ry hq
  obtain ⟨a, dx, fs, b, dy, gs, rfl, rfl, ha, hb', h⟩ := hq
  obtain rfl : v = Value.ref a := rx
  obtain rfl : u = Value.ref b := ry
  obtain ⟨mA, J, _⟩ := ins_get I.hok ha
  obtain ⟨od, J, _⟩ := J.look
  obtain ⟨mB, J', _⟩ := ins_get I.hok hb'
  obtain ⟨od', J', _⟩ := J'.look
  obtain ⟨m, hF⟩ := I.fr
  refine PySem.W.binop_K (op := op) hF I.ok.mod.kin J J'.type e.sf (by rw [hn]; exact e.at_) e.fn ?_
  refine wpAny_mono (own_run F hr rfl hb hx I (show RelV (V.ref b) (Value.ref b) from rfl) h) (fun r s' z => ?_) fun _ _ z => z
  obtain ⟨z, H', I', rz, ⟨p, ez⟩, q⟩ := z
  subst ez
  obtain rfl : r = Value.ref p := rz
  exact ⟨.ref p, H', I', rfl, q⟩
end L2

namespace L2
open PySem PySem.Spec PyProof.Rows
/-! ### // of numbers of at most 4000 bits by any number; tuples that stand in the heap; dicts with tuples as keys -/
def CDivV (i j : Int) : Prop := j ≠ 0 ∧ i.natAbs < 2 ^ 4000
theorem noPylong_w {x y : Int} (h : x.natAbs < 2 ^ 4000) : Builtin.divisionGoesByPylong x y = false := by
  unfold Builtin.divisionGoesByPylong
  have k : (if x == 0 then 0 else x.natAbs.log2 / 30 + 1) ≤ 150 := by
    by_cases h0 : x = 0
    · subst h0; decide
    · rw [if_neg (by simpa using h0)]
      have h1 : x.natAbs.log2 < 4000 := (Nat.log2_lt (by omega)).mpr h
      omega
  have e : decide ((if x == 0 then 0 else x.natAbs.log2 / 30 + 1) > (if y == 0 then 0 else y.natAbs.log2 / 30 + 1) + 150) = false := decide_eq_false (by omega)
  show (decide _ && decide ((if x == 0 then 0 else x.natAbs.log2 / 30 + 1) > (if y == 0 then 0 else y.natAbs.log2 / 30 + 1) + 150)) = false
  rw [e, Bool.and_false]
theorem op_fdivV {X : Cx} : OpR X (binaryOp .FloorDiv) (rI CDivV fun i j => .int (i.fdiv j)) := opI fun _ _ _ _ _ _ _ hc q => floordiv_int hc.1 q (.inl (noPylong_w hc.2))
theorem mulW {i j : Int} (h1 : i.natAbs < 2 ^ 2000) (h2 : j.natAbs < 2 ^ 2000) : CMulX i j := mulx_ok h1 h2 (by omega)
/-- a list (true), or a tuple that stands in the heap -/
def Tq (b : Bool) (K : PySem.W.Frag) (H : Hp) (a : Addr) (xs : List V) : Prop := match b with
  | true => SqL K H a xs
  | false => H a = some (.tup xs)
theorem Tq.sq {b : Bool} {K : PySem.W.Frag} {H : Hp} {a : Addr} {xs : List V} (h : Tq b K H a xs) : Sq b K H a xs := by
  cases b
  · exact Sq.tup h
  · exact h
theorem Same.tq {b : Bool} {K : PySem.W.Frag} {H H' : Hp} {a : Addr} {xs : List V} (s : Same H H') (h : Tq b K H a xs) : Tq b K H' a xs := by
  cases b
  · exact s _ _ h
  · exact s.sq (b := true) h
section
variable {K : PySem.W.Frag} {σ : St} {H : Hp} {Q : VK}
theorem w_slTq {b : Bool} {a : Addr} {xs ys : List V} {lo hi : Option Int} (h : Tq b K H a xs) (e : cutV xs lo hi = ys) (q : ∀ p H', Same H H' → Tq b K H' p ys → Q (.ref p) H') : rSlG K (.ref a) lo hi H Q := by
  cases b with
  | true => exact .inl ⟨a, xs, rfl, h, fun p hp => q _ _ (Same.new hp) (show SqL _ _ _ _ from SqL.of (by rw [upd_same, e]))⟩
  | false =>
    refine .inr ⟨a, xs, rfl, Sq.tup h, fun hw => ?_, fun _ p hp => q _ _ (Same.new hp) (show _ = _ by rw [upd_same, e])⟩
    have e2 : xs = ys := by
      rw [← e]
      unfold cutV
      rw [hw.1, hw.2, List.drop_zero, Nat.sub_zero, List.take_length]
    exact q _ _ (Same.refl _) (e2 ▸ h)
theorem w_tupTq {b : Bool} {a : Addr} {ys : List V} (h : Tq b K H a ys) (q : ∀ p H', Same H H' → H' p = some (.tup ys) → Q (.ref p) H') : rTupS K [.ref a] H Q := by
  cases b with
  | true => exact w_tupL h fun p hp => q _ _ (Same.new hp) upd_same
  | false => exact w_tupT (Sq.tup h) (q _ _ (Same.refl _) h)
theorem w_catT {a b : Addr} {xs ys : List V} (h1 : H a = some (.tup xs)) (h2 : H b = some (.tup ys)) (hz : xs.length + ys.length ≤ 1000000) (q : ∀ p H', Same H H' → H' p = some (.tup (xs ++ ys)) → Q (.ref p) H') : rCatA K (.ref a) (.ref b) H Q :=
  ⟨a, b, xs, ys, rfl, rfl, Sq.tup h1, Sq.tup h2, by rw [sizeLine_eq]; omega, fun e => q _ _ (Same.refl _) (by rw [e]; exact h2), fun _ e => q _ _ (Same.refl _) (by rw [e, List.append_nil]; exact h1), fun _ _ p hp => q _ _ (Same.new hp) upd_same⟩
theorem w_whN {m : Nat} {W : Nat → St → Hp → Prop} {F : (St → Hp → Prop) → Prop} (q : F fun σ' H' => ∃ m', m' < m ∧ W m' σ' H') : ∃ N : St → Hp → Prop, (∀ σ' H', N σ' H' → ∃ m', m' < m ∧ W m' σ' H') ∧ F N := ⟨_, fun _ _ h => h, q⟩
theorem w_dnew (q : ∀ p, H p = none → Q (.ref p) (upd H p (.dT []))) : tDNewT σ H Q := q
theorem w_dnotin {ty td : TE} (q : ty σ H fun y H1 => td σ H1 fun x H2 => ∃ a o, x = .ref a ∧ DGet H2 a y o ∧ Q (.bl (!o.isSome)) H2) : tDNotIn ty td σ H Q := q
theorem w_par {i j : Nat} {ta : TA} {f b' c' : St → Hp → Prop} {rt : VK} (q : ta σ H fun vs H1 => ∃ v w, vs = [v, w] ∧ f ((σ.set i (some v)).set j (some w)) H1) : tPar i j ta ⟨f, rt, b', c'⟩ σ H := q
theorem w_par2 {v w : V} {F : V → V → Prop} (q : F v w) : ∃ v' w', [v, w] = [v', w'] ∧ F v' w' := ⟨v, w, rfl, q⟩
theorem w_while {c : TT} {tb : TS} {f b' c' : St → Hp → Prop} {rt : VK} (W : Nat → St → Hp → Prop) (m : Nat) (h0 : W m σ H)
    (hs : ∀ m σ H, W m σ H → c σ H fun b H1 => if b = true then ∃ N : St → Hp → Prop, (∀ σ' H', N σ' H' → ∃ m', m' < m ∧ W m' σ' H') ∧ tb ⟨N, rt, f, N⟩ σ H1 else f σ H1) : tWhile c tb ⟨f, rt, b', c'⟩ σ H := by
  refine ⟨W, ⟨m, h0⟩, fun m σ H h => ?_⟩
  exact hs m σ H h
end
/-! ### all but what stands at one place -/
theorem Fr.hide {t : Addr} {H H' : Hp} (f : Fr t H H') : Same (hide t H) H' := fun b o e => by
  by_cases h : b = t
  · subst h; rw [hide_at] at e; cases e
  · rw [hide_ne h] at e; exact f b o h e
theorem Fr.rep {α : Type} {R : Rep α} (hm : RMono R) (ht : RTup R) {t : Addr} {H H' : Hp} {v : V} {x : α} (f : Fr t H H') (hn : NTup (H t)) (h : R H v x) : R H' v x := hm _ _ _ _ f.hide (ht _ _ _ _ hn h)
theorem Fr.sqD {t : Addr} {H H' : Hp} {b : Bool} {K : PySem.W.Frag} {a : Addr} {xs : List V} {kvs : List (List Key × V)} (f : Fr t H H') (ht : H t = some (.dT kvs)) (h : Sq b K H a xs) : Sq b K H' a xs := by
  cases b with
  | true =>
    have h : SqL K H a xs := h
    rcases h with (h | ⟨o, h⟩) | h
    · exact .inl (.inl (f _ _ (fun e => by rw [e, ht] at h; cases h) h))
    · exact .inl (.inr ⟨o, f _ _ (fun e => by rw [e, ht] at h; cases h) h⟩)
    · exact .inr h
  | false =>
    have h : SqT K H a xs := h
    rcases h with (h | ⟨o, h⟩) | h
    · exact .inl (.inl (f _ _ (fun e => by rw [e, ht] at h; cases h) h))
    · exact .inl (.inr ⟨o, f _ _ (fun e => by rw [e, ht] at h; cases h) h⟩)
    · exact .inr h
theorem Fr.tqD {t : Addr} {H H' : Hp} {b : Bool} {K : PySem.W.Frag} {a : Addr} {xs : List V} {kvs : List (List Key × V)} (f : Fr t H H') (ht : H t = some (.dT kvs)) (h : Tq b K H a xs) : Tq b K H' a xs := by
  cases b with
  | true => exact f.sqD (b := true) ht h
  | false =>
    have h : H a = some (.tup xs) := h
    exact f _ _ (fun e => by rw [e, ht] at h; cases h) h
theorem NTup.dT {H : Hp} {D : Addr} {kvs : List (List Key × V)} (h : H D = some (.dT kvs)) : NTup (H D) := by rw [h]; trivial
end L2

namespace PySem.W
open PySem PySem.Spec PySem.Calls PyProof.Rows
/-! ### isinstance of a caught error that has a dict of its own -/
section
variable {prog : Program} {w : World} {A : Around} {E : Value → Shared → Prop} {s : Shared} {K : Frag} {x D : Addr} {ox od : Obj}
theorem kin_classX {Q : Option Value → Shared → Prop} (hga : findIn K (.ref D) "__getattribute__" = some (some (.builtin "BaseException.__getattribute__"))) (hgt : findIn K (.ref D) "__getattr__" = some none) (hsub : subIn K (.ref D) (.type "BaseException") = some true)
    (hdct : hasDictIn K D = true) (ha : findIn K (.ref D) "__class__" = some (some (.builtin "object.__class__")))
    (hn : specialIn K (.builtin "object.__class__") "__get__" = some (some (.builtin "getset_descriptor.__get__"))) (htk : takesIn K (.builtin "object.__class__") = some true) (hm : mroIn K D (.type "object") = some true)
    (X : K.In s.heap) (I : InstAt s.heap x ox D (some od)) (h : Q (some (.ref D)) { s with toks := s.toks + 1 }) : wpAny (model prog w) A (getAttr? (.ref x) "__class__") Q E s := by
  have hf : findObj K D (some od) "__class__" = some (.bind (.builtin "getset_descriptor.__get__") (.builtin "object.__class__")) := findObj_data (by obtain ⟨cd, hc, _⟩ := any_some hdct; rw [hc]; rfl) ha hn htk
  obtain ⟨hp, g, d, t, os⟩ := s
  have L0 := I.type (M := model prog w)
  have L1 := looks_findIn (M := model prog w) X hga
  have L2 := looks_findIn (M := model prog w) X hgt
  have L3 := looks_find (M := model prog w) X I hf
  have sub : Looks (model prog w) hp (isInstance (.ref x) (.type "BaseException")) true := L0.andThen (looks_subIn X hsub)
  have hx0 : (false && onTheHeap (Value.builtin "BaseException.__getattribute__")) = false := rfl
  have hx2 : (Value.builtin "BaseException.__getattribute__" == Value.builtin "object.__getattribute__") = false := by decide +kernel
  have hx1 : (onTheHeap (Value.ref D) && Value.builtin "BaseException.__getattribute__" == Value.builtin "object.__getattribute__") = false := by rw [hx2]; rfl
  unfold getAttr? getAttrBy? getAttrBy
  refine wpAny_bind (wpAny_mkText (wpAny_bind (wpAny_attempt (wpAny_holding (wpAny_bind (L0.at (wpAny_bind (L1.at ?_))))))))
  show wpAny _ _ (if (onTheHeap (Value.ref D) && Value.builtin "BaseException.__getattribute__" == Value.builtin "object.__getattribute__") = true then _ else _) _ _ _
  rw [hx1, if_neg Bool.false_ne_true]
  unfold getAttrByItsOwn hookBefore
  refine wpAny_bind ?_
  rw [if_pos (show onTheHeap (Value.ref D) = true from rfl)]
  refine L2.at ?_
  refine wpAny_bind (wpAny_attempt (wpAny_holding ?_))
  unfold callGetattribute
  rw [hx0, if_neg Bool.false_ne_true]
  unfold boundAndCalled
  rw [PySem.F.excAttr_ValueError.ga.bind (.ref x)]
  refine wpAny_bind (wpAny_pure ?_)
  show wpAny _ _ (call (.builtin "BaseException.__getattribute__") [.ref x, .str "__class__" t]) _ _ _
  refine wpAny_call (codeAny_call_builtin PySem.F.excAttr_ValueError.ga.plain PySem.F.entry_bexc_ga ?_)
  refine @check_slot (model prog w) _ _ ⟨hp, g, d, t + 1, os⟩ "BaseException.__getattribute__" "BaseException" "__getattribute__" (.ref x) [.str "__class__" t] [] _ (by decide +kernel) (by decide +kernel) sub (PySem.F.args_bexc_ga (.ref x) (.str "__class__" t)) ?_
  unfold Builtin.«object.__getattribute__»
  refine wpAny_bind (wpAny_of_eq (a := ((Value.ref x : Value), [Value.str "__class__" t])) (by first | rfl | (simp only [slotArgs]; rfl)) ?_)
  refine wpAny_bind (wpAny_pure (wpAny_bind (L0.at (wpAny_bind (L3.at ?_)))))
  show wpAny _ _ (holding [Value.builtin "object.__class__"] (call (.builtin "getset_descriptor.__get__") [.builtin "object.__class__", .ref x, .ref D]) >>= ret) _ _ _
  refine wpAny_bind (wpAny_holding (wpAny_call (class_get (s := ⟨hp, g, d, t + 1, os⟩) (ox := ox) (od := some od) X I hm ?_)))
  refine wpAny_pure ?_
  show wpAny _ _ (handedOut (.ref D)) _ _ _
  rw [handedOut_of (v := .ref D) rfl]
  first
    | exact wpAny_pure (wpAny_pure h)
    | exact wpAny_pure h
    | exact wpAny_pure (wpAny_bind (wpAny_pure (wpAny_pure h)))
theorem kitx_excX (hga : findIn K (.ref D) "__getattribute__" = some (some (.builtin "BaseException.__getattribute__"))) (hgt : findIn K (.ref D) "__getattr__" = some none) (hsub : subIn K (.ref D) (.type "BaseException") = some true) (hdct : hasDictIn K D = true) (ha : findIn K (.ref D) "__class__" = some (some (.builtin "object.__class__")))
    (hn : specialIn K (.builtin "object.__class__") "__get__" = some (some (.builtin "getset_descriptor.__get__"))) (htk : takesIn K (.builtin "object.__class__") = some true) (hm : mroIn K D (.type "object") = some true) :
    KitX K (.ref x) (.ref D) (fun h => InstAt h x ox D (some od)) where
  ty := fun _ _ _ I => I.type
  it := fun _ _ X _ => by
    obtain ⟨cdD, hcD, _⟩ := any_some hdct
    unfold clsIn at hcD
    split at hcD
    · rename_i c' d' cd' sl' ho
      intro A' Q' E' s' k q
      unfold isType loadHead
      exact wpAny_bind (wpAny_loadPart (k _ _ (X _ _ ho)) (wpAny_pure q))
    · cases hcD
  ne := (handS_kitx_exc (x := x) (ox := ox) hga hgt hsub hdct ha hn htk hm).ne
  ca := fun X I k => kin_classX hga hgt hsub hdct ha hn htk hm X I k
end
end PySem.W
namespace L2
open PySem PySem.Spec PyProof.Rows
/-- isinstance(e, c) or isinstance(e, (c1, ..)), e the error that the suite holds, its class cls, its dict d -/
def rIsX (K : PySem.W.Frag) (a : Addr) (cls : Value) (d : Option Addr) : List V → Hp → VK → Prop := fun xs H Q => ∃ (c : V) (C dd : Addr) (fs : List (Str × V)) (b : Bool), xs = [.ref a, c] ∧ cls = .ref C ∧ d = some dd ∧ H dd = some (.xd fs) ∧ ExcC K C ∧
  ((∃ cv, ClsV c cv ∧ PySem.W.kitOne K (.ref C) cv = some b) ∨ ∃ (tp : Addr) (cs : List V) (us : List Value), c = .ref tp ∧ H tp = some (.tup cs) ∧ Paired ClsV cs us ∧ PySem.W.kitAny K (.ref C) us = some b) ∧ Q (.bl b) H
theorem call_isX {X : Cx} {a : Addr} {oe : Obj} {cls : Value} {d : Option Addr} (hp : (a, oe) ∈ X.pn) (hz : Zc cls d oe) (hf : ∃ vs, oe.data = .fields vs) : CallR X (.builtin "isinstance") (rIsX X.K a cls d) := by
  intro pins s σ H xs us Q I r h
  obtain ⟨c, D, dd, fs, b, rfl, rfl, rfl, hdd, C, hc, q⟩ := h
  obtain ⟨u1, u2, rfl, r1, r2⟩ := vals2 r
  cases (show u1 = Value.ref a from r1)
  obtain ⟨hget, _⟩ := I.pin (a, oe) (List.mem_append_left _ hp)
  obtain ⟨vs, hv⟩ := hf
  have hx : ObjOk X.prog X.w H s.heap dd (.xd fs) := I.hok dd _ hdd
  obtain ⟨mA, hns, _⟩ := hx
  obtain ⟨od, ho, _⟩ := lookIn_ns hns
  have J : PySem.W.InstAt s.heap a oe D (some od) := ⟨hget, hz.1, by unfold PySem.W.notCls; rw [hv] <;> rfl, by rw [hz.2]; exact ho⟩
  have Z := PySem.W.kitx_excX (x := a) (ox := oe) (od := od) C.hg C.hk C.hs C.hd C.ha C.hn C.ht C.hm
  rcases hc with ⟨cv, kc, e⟩ | ⟨tp, cs, ws, rfl, hT, k, e⟩
  · have e2 := kc.eq r2
    subst e2
    exact PySem.W.kia_one Z I.kIn J e (fun z => nomatch z) fun tk => ⟨.bl b, H, I.kept (t' := tk) fun _ _ z => z, rfl, q⟩
  · cases (show u2 = Value.ref tp from r2)
    obtain ⟨_, its, rv, o, h1, h2, n, h3⟩ := (show ObjOk X.prog X.w H s.heap tp (.tup cs) from I.hok tp _ hT)
    have e3 := ClsV.all k rv
    subst e3
    obtain ⟨oc, od', dt, sl⟩ := o
    simp only at h2 h3
    subst h2 h3
    exact PySem.W.kia_tup Z I.kIn J h1 e (fun z => nomatch z) fun tk => ⟨.bl b, H, I.kept (t' := tk) fun _ _ z => z, rfl, q⟩
/-! ### calls within a try: what may be let out, at the slots as they stand -/
section
variable {X : Cx} {CX : CXT} {k : Nat} {f C : Addr} {fd : FuncData} {ps : List Str} {sp : Sp} {dvs : List V} {ds : List Value} {E : St → XK} {x m : Str} {p pos apos : Pos} {e o : Expr} {es : List Expr} {ta : TE} {t : TA}
theorem run_fnT {pins : List (Addr × Obj)} {σ : St} {H : Hp} {s : Shared} {Q : VK} {us : List Value} {vs : List V} (F : FnOk X.prog X.w X.K X.mg X.base CX k f fd ps sp) (hr : Room k X.A) (hb : Binds X.K fd ps ds) (hd : Vals dvs ds) (hx : PassesAt CX X σ (E σ))
    (I : Inv X pins σ H s) (r : Vals vs us) (h : sp (vs ++ dvs) H Q (E σ)) : wpAny (model X.prog X.w) X.A (call (.ref f) us) (EP X pins σ Q) X.xe s := by
  have r2 : Vals (vs ++ dvs) (us ++ ds) := r.append hd
  have hl : (us ++ ds).length = ps.length := by rw [← r2.length]; exact F.len _ _ _ _ h
  refine wpAny_call (codeAny_mono (F.run X.A X.stack s H ⟨us, []⟩ (us ++ ds) (vs ++ dvs) Q (E σ) hr I.env0 (hb s us I.kIn hl) r2 h) fun r s' hq => ?_)
  cases r with
  | error e => exact hx pins H s e s' I hq
  | ok fl =>
    cases fl with
    | ret u => exact I.after hq
    | next => exact False.elim hq
    | brk => exact False.elim hq
    | cont => exact False.elim hq
def tMethT (C : Addr) (m : Str) (sp : Sp) (dvs : List V) (E : St → XK) (ta : TE) (t : TA) : TE := fun σ H Q => ta σ H fun x H1 => ∃ a dx fs, x = .ref a ∧ H1 a = some (.ins C dx fs) ∧ fs.lookup m = none ∧ t σ H1 fun vs H2 => sp (x :: (vs ++ dvs)) H2 Q (E σ)
theorem pe_methT {pl : Sem Bool} (he : PE X o ta) (c : Cls X.K C) (hm : Meth X.K C m f) (F : FnOk X.prog X.w X.K X.mg X.base CX k f fd ps sp) (hr : Room k X.A) (hb : Binds X.K fd ps ds) (hd : Vals dvs ds) (hx : ∀ σ, PassesAt CX X σ (E σ)) (ha : PA X (e :: es) t)
    (hst : starEach (e :: es) X.env = (false, eval e X.env) :: starEach es X.env := by rfl) (hpl : (backTo pos (starEach es X.env)).any (·.1) = false := by rfl)
    (ht : eval (.Call (.Attribute o m apos) (e :: es) [] pos) X.env = (do
      let ov ← eval o X.env
      standAt apos.atName
      let (f, first) ← holding [ov] (getMethod ov m pl)
      callWith pos f first (backTo pos (starEach (e :: es) X.env)) (backToKw pos (keywordEach [] X.env))) := by rfl) :
    PE X (.Call (.Attribute o m apos) (e :: es) [] pos) (tMethT C m sp dvs E ta t) := by
  refine ⟨fun pins s σ H Q I h => ?_⟩
  refine PySem.W.methodCall_KW (pl := pl) (thn (he.run pins s σ H _ I h) fun u s1 ⟨x, H1, I1, rx, a, dx, fs, ex, ea, l, q⟩ => ?_) ht
  subst ex
  obtain rfl : u = Value.ref a := rx
  refine getmeth_ok I1 ea c hm l ?_
  refine PySem.W.callWith_K (first := [.ref a]) (h₀ := X.base) I.ok.mod.kin hm.kp (thn (ha.run pos pins s1 σ H1 _ I1 q) fun us s2 ⟨vs, H2, I2, r, q2⟩ => ⟨I2.kIn, ?_⟩) hst hpl
  exact run_fnT (us := .ref a :: us) (vs := .ref a :: vs) F hr hb hd (hx σ) I2 (.cons rfl r) q2
def tMakeT (C : Addr) (sp : Sp) (dvs : List V) (E : St → XK) (t : TA) : TE := fun σ H Q => t σ H fun vs H1 => ∀ x dx, H1 x = none → H1 dx = none → dx ≠ x → sp (.ref x :: (vs ++ dvs)) (upd (upd H1 dx (.own x)) x (.ins C dx [])) (fun v H2 => v = .non ∧ Q (.ref x) H2) (E σ)
theorem pe_makeT (M : Mk X.K C f) (F : FnOk X.prog X.w X.K X.mg X.base CX k f fd ps sp) (hr : Room (k + 1) X.A) (hg : Gl X x) (hm : X.mg x = some (.ref C)) (hb : Binds X.K fd ps ds) (hd : Vals dvs ds) (hx : ∀ σ, PassesAt CX X σ (E σ))
    (ha : PA X (e :: es) t) (hdb : (x == ("__debug__" : Str)) = false := by decide) (he : starEach (e :: es) X.env = (false, eval e X.env) :: starEach es X.env := by rfl) (hpl : (backTo pos (starEach es X.env)).any (·.1) = false := by rfl) :
    PE X (.Call (.Name x p) (e :: es) [] pos) (tMakeT C sp dvs E t) := by
  refine ⟨fun pins s σ H Q I h => ?_⟩
  refine wpAny_Call_Name_kw (ld_glob I hg hm ?_ hdb)
  refine PySem.W.callWith_K (h₀ := X.base) I.ok.mod.kin M.kp (thn (ha.run pos pins s σ H _ I h) fun us s1 ⟨vs, H1, I1, r, h⟩ => ⟨I1.kIn, ?_⟩) he hpl
  have hq := h (s1.heap.objs.size + 1) s1.heap.objs.size (I1.hok.fresh (Nat.le_succ _)) (I1.hok.fresh (Nat.le_refl _)) (Nat.ne_of_lt (Nat.lt_succ_self _))
  have I2 := Inv.made (C := C) I1
  have r2 : Vals (V.ref (s1.heap.objs.size + 1) :: (vs ++ dvs)) (Value.ref (s1.heap.objs.size + 1) :: (us ++ ds)) := .cons rfl (r.append hd)
  have hl : (Value.ref (s1.heap.objs.size + 1) :: us ++ ds).length = ps.length := by
    have e := r2.length
    rw [F.len _ _ _ _ hq] at e
    exact e.symm
  refine wpAny_call (make_map (f := f) I1.kIn M.makes M.init (beq_iff_eq.mp M.fn) (codeAny_mono (F.run _ X.stack _ _ ⟨Value.ref (s1.heap.objs.size + 1) :: us, []⟩ (Value.ref (s1.heap.objs.size + 1) :: (us ++ ds)) _ _ (E σ) (hr.make C us [])
    (I2.env0.make C us []) (hb _ (Value.ref (s1.heap.objs.size + 1) :: us) I2.kIn hl) r2 hq) fun r s' hq' => ?_))
  cases r with
  | error e => exact hx σ pins _ _ e s' I2 hq'
  | ok fl =>
    cases fl with
    | ret u =>
      obtain ⟨v, H', I3, rv, ev, q3⟩ := I2.after hq'
      subst ev
      exact ⟨rv, ⟨V.ref (s1.heap.objs.size + 1), H', I3, rfl, q3⟩⟩
    | next => exact False.elim hq'
    | brk => exact False.elim hq'
    | cont => exact False.elim hq'
end
/-! ### an own error of one field -/
/-- X(v): self.f = v; what __init__ promises -/
def spErr (K : PySem.W.Frag) (f : Str) : Sp := fun vs H Q _ => ∃ (a C : Addr) (v : V), vs = [.ref a, v] ∧ H a = some (exo a C none) ∧ OexC K C ∧ PySem.W.findIn K (.ref C) f = some none ∧ ∀ dx, H dx = none → dx ≠ a → Q .non (upd (upd H dx (exd dx [(f, v)])) a (exo a C (some dx)))
theorem upd_del (H : Hp) (a d : Addr) (o1 o2 o3 o4 : HO) (ha : H a = none) (hd : d ≠ a) : upd (del (upd (upd (upd H a o1) d o2) a o3) a) d o4 = upd H d o4 := by
  funext b
  by_cases h : b = d
  · subst h
    rw [upd_same, upd_same]
  · rw [upd_ne h, upd_ne h]
    by_cases h2 : b = a
    · subst h2
      rw [del_same, ha]
    · rw [del_ne h2, upd_ne h2, upd_ne h, upd_ne h2]
theorem w_mkErr {K : PySem.W.Frag} {C : Addr} {f : Str} {ta : TA} {σ : St} {H : Hp} {Q : XK} (o : OexC K C) (n : PySem.W.findIn K (.ref C) f = some none) (q : ta σ H fun vs H1 => ∃ v, vs = [v] ∧ ∀ d, H1 d = none → Q (.ref C) (some d) (upd H1 d (.xd [(f, v)]))) (hm : ∀ {QA QB : List V → Hp → Prop}, (∀ vs H1, QA vs H1 → QB vs H1) → ta σ H QA → ta σ H QB) : tMkO C (spErr K f) [] ta σ H Q := by
  refine hm (fun vs H1 ⟨v, ev, hq⟩ => ?_) q
  subst ev
  refine ⟨by show 1 ≤ 1000; omega, fun a ha => ⟨a, C, v, rfl, upd_same, o, n, fun dx hdx hne => ?_⟩⟩
  rw [upd_ne hne] at hdx
  refine ⟨rfl, dx, [(f, v)], upd_same, (upd_ne hne).trans upd_same, hdx, ?_⟩
  rw [upd_del H1 a dx _ _ _ _ ha hne]
  exact hq dx hdx
end L2

namespace L2
open PySem PySem.Spec PyProof.Rows
/-! ### own errors: what is asked of their classes; readings -/
structure ErrN (K : PySem.W.Frag) (C : Addr) : Prop where
  isc : PySem.W.isClsIn K C = true
  typ : PySem.W.typeIn K (.ref C) = some (.type "type")
  exB : PySem.W.subIn K (.ref C) (.type "BaseException") = some true
  hd : PySem.W.hasDictIn K C = true
section
variable {K : PySem.W.Frag} {C D : Addr} {H : Hp} {Q : VK} {b : Bool} {a dd : Addr} {fs : List (Str × V)} {σ : St}
theorem kit_sub (e : ErrN K D) (self : PySem.W.subIn K (.ref C) (.ref C) = some true) (h : PySem.W.subIn K (.ref C) (.ref D) = some b) : PySem.W.kitOne K (.ref C) (.ref D) = some b := by
  unfold PySem.W.kitOne
  by_cases q : C = D
  · subst q
    rw [self] at h
    cases h
    exact if_pos (beq_self_eq_true _)
  · rw [if_neg (by intro z; exact q (Value.ref.inj (beq_iff_eq.mp z)))]
    have h1' : (PySem.W.clsIn K D).isSome = true := e.isc
    show (if ((PySem.W.clsIn K D).isSome && PySem.W.typeIn K (.ref D) == some (.type "type")) = true then PySem.W.subIn K (.ref C) (.ref D) else none) = some b
    rw [if_pos (by rw [h1', e.typ]; rfl)]
    exact h
theorem kit_VE (h : PySem.W.subIn K (.ref C) (.type "ValueError") = some true) : PySem.W.kitOne K (.ref C) (.type "ValueError") = some true := by
  unfold PySem.W.kitOne
  rw [if_neg (by intro z; cases (beq_iff_eq.mp z))]
  show (if PySem.W.kitMeta "ValueError" = true then PySem.W.subIn K (.ref C) (.type "ValueError") else none) = some true
  rw [if_pos (by decide +kernel)]
  exact h
theorem kit_nil : PySem.W.kitAny K (.ref C) [] = some false := rfl
theorem kit_cons {c : Value} {r : List Value} (h : PySem.W.kitOne K (.ref C) c = some false) (h2 : PySem.W.kitAny K (.ref C) r = some b) : PySem.W.kitAny K (.ref C) (c :: r) = some b := by
  unfold PySem.W.kitAny
  rw [h]
  exact h2
theorem kit_hit {c : Value} {r : List Value} (h : PySem.W.kitOne K (.ref C) c = some true) : PySem.W.kitAny K (.ref C) (c :: r) = some true := by
  unfold PySem.W.kitAny
  rw [h]
theorem exm_sub (e : ErrN K D) (h : PySem.W.subIn K (.ref C) (.ref D) = some b) : PySem.W.exmOne K (.ref C) (.ref D) = some b := PySem.W.exm_ref e.exB e.hd e.typ h
theorem w_isX (hd : H dd = some (.xd fs)) (ec : ExcC K C) (e : ErrN K D) (self : PySem.W.subIn K (.ref C) (.ref C) = some true) (h : PySem.W.subIn K (.ref C) (.ref D) = some b) (q : Q (.bl b) H) : rIsX K a (.ref C) (some dd) [.ref a, .ref D] H Q :=
  ⟨_, C, dd, fs, b, rfl, rfl, rfl, hd, ec, .inl ⟨_, .own D, kit_sub e self h⟩, q⟩
theorem w_isXV (hd : H dd = some (.xd fs)) (ec : ExcC K C) (h : PySem.W.subIn K (.ref C) (.type "ValueError") = some true) (q : Q (.bl true) H) : rIsX K a (.ref C) (some dd) [.ref a, .ty "ValueError"] H Q :=
  ⟨_, C, dd, fs, true, rfl, rfl, rfl, hd, ec, .inl ⟨_, .ty _, kit_VE h⟩, q⟩
theorem w_isXT {tp : Addr} {cs : List V} {us : List Value} (hd : H dd = some (.xd fs)) (ec : ExcC K C) (ht : H tp = some (.tup cs)) (hp : Paired ClsV cs us) (hk : PySem.W.kitAny K (.ref C) us = some b) (q : Q (.bl b) H) : rIsX K a (.ref C) (some dd) [.ref a, .ref tp] H Q :=
  ⟨_, C, dd, fs, b, rfl, rfl, rfl, hd, ec, .inr ⟨tp, cs, us, rfl, ht, hp, hk⟩, q⟩
theorem w_xf {f : Str} {te : TE} {v : V} (q : te σ H fun x H1 => x = .ref a ∧ H1 dd = some (.xd fs) ∧ fs.lookup f = some v ∧ Q v H1) (hm : ∀ {QA QB : VK}, (∀ x H1, QA x H1 → QB x H1) → te σ H QA → te σ H QB) : tXf a (.ref C) (some dd) C f te σ H Q :=
  hm (fun _ _ ⟨h1, h2, h3, h4⟩ => ⟨h1, rfl, dd, fs, v, rfl, h2, h3, h4⟩) q
theorem w_xfV {f : Str} {i : Nat} {v : V} (hi : σ[i]? = some (some (.ref a))) (hd : H dd = some (.xd fs)) (hl : fs.lookup f = some v) (q : Q v H) : tXf a (.ref C) (some dd) C f (tVar i) σ H Q :=
  ⟨.ref a, hi, rfl, rfl, dd, fs, v, rfl, hd, hl, q⟩
theorem w_mkErrV {f : Str} {i : Nat} {v : V} {QX : XK} (o : OexC K C) (n : PySem.W.findIn K (.ref C) f = some none) (h : σ[i]? = some (some v)) (q : ∀ d, H d = none → QX (.ref C) (some d) (upd H d (.xd [(f, v)]))) : tMkO C (spErr K f) [] (tCons (tVar i) tNil) σ H QX :=
  w_mkErr o n ⟨v, h, ⟨v, rfl, q⟩⟩ fun hq ⟨x, hx, z⟩ => ⟨x, hx, hq _ _ z⟩
theorem w_makeT {C : Addr} {sp : Sp} {dvs : List V} {E : L2.St → XK} {t : TA} {σ : L2.St} {H : Hp} {Q : VK} (q : t σ H fun vs H1 => ∀ x dx, H1 x = none → H1 dx = none → dx ≠ x → sp (.ref x :: (vs ++ dvs)) (upd (upd H1 dx (.own x)) x (.ins C dx [])) (fun v H2 => v = .non ∧ Q (.ref x) H2) (E σ)) : tMakeT C sp dvs E t σ H Q := q
theorem w_methT {C : Addr} {m : Str} {sp : Sp} {dvs : List V} {E : L2.St → XK} {ta : TE} {t : TA} {σ : L2.St} {H : Hp} {Q : VK} (q : ta σ H fun x H1 => ∃ a dx fs, x = .ref a ∧ H1 a = some (.ins C dx fs) ∧ fs.lookup m = none ∧ t σ H1 fun vs H2 => sp (x :: (vs ++ dvs)) H2 Q (E σ)) : tMethT C m sp dvs E ta t σ H Q := q
theorem w_callS {sp : Sp} {E : L2.St → XK} {t : TA} {σ : L2.St} {H : Hp} {Q : VK} (q : t σ H fun vs H1 => sp vs H1 Q (E σ)) : tCallS sp E t σ H Q := q
end
end L2

namespace L2
open PySem PySem.Spec PyProof.Rows
/-! ### defs that may ask for the repr of lists and tuples: they are called where no repr is under way -/
/-- as FnOk, but only where no repr is under way -/
structure FnG (P : Program) (w : World) (K : PySem.W.Frag) (mg : Str → Option Value) (base : Heap) (CX : CXT) (k : Nat) (f : Addr) (fd : FuncData) (ps : List Str) (sp : Sp) : Prop where
  len : ∀ vs H Q E, sp vs H Q E → vs.length = ps.length
  run : ∀ (A : Around) (outer : List Env) (s : Shared) (H : Hp) (args : Args) (us : List Value) (vs : List V) (Q : VK) (E : XK), A.guards = some [] → Room k A → Env0 P w K mg base A outer s H → BindsTo s fd args (ps.zip us) → Vals vs us → sp vs H Q E →
    codeAny (model P w) A (.call (.ref f) args) (CR CX outer P w H s Q E) s
section
variable {P : Program} {w : World} {K : PySem.W.Frag} {mg : Str → Option Value} {base : Heap} {CX : CXT}
theorem FnOk.toG {k : Nat} {f : Addr} {fd : FuncData} {ps : List Str} {sp : Sp} (F : FnOk P w K mg base CX k f fd ps sp) : FnG P w K mg base CX k f fd ps sp := ⟨F.len, fun A outer s H args us vs Q E _ hr => F.run A outer s H args us vs Q E hr⟩
/-- the body of such a def -/
theorem Fun.okG {x qual : Str} {st : Stmt} {f : Addr} {fd : FuncData} {N ps : List Str} {k : Nat} {sp : Sp} (F : Fun K x qual st f fd) (S : FnScope N ps (defScope st)) (len : ∀ vs H Q E, sp vs H Q E → vs.length = ps.length)
    (hbody : ∀ (cdv : Value) (A : Around) (outer : List Env) (s : Shared) (H : Hp) (vs : List V) (Q : VK) (E : XK), A.guards = some [] → Room k (A.deeper (envOfC qual (defScope st) s.heap.objs.size f cdv)) → sp vs H Q E →
      ∃ t, PSs (cxOf CX0 P w K mg base N qual (defScope st) f cdv A outer s H E).nox (defBody st) t ∧ t { nx := fun _ H' => Q .non H', rt := Q } (start N vs) H) : FnG P w K mg base CX0 (k + 1) f fd ps sp := by
  obtain ⟨oc, od, kV, doc, pm, an, cdv, ct, osl, rfl, lk, hcd⟩ := F.ex
  refine ⟨len, fun A outer s H args us vs Q E hA hr e0 hb r hsp => ?_⟩
  have hl := len _ _ _ _ hsp
  have kept : ∀ b o, base.get? b = some o → s.heap.get? b = some o := fun b o e => (e0.bs b o e).1
  have seen := e0.mod.kin.keeps kept
  refine codeAny_call_function hr.depth (seen _ _ lk) rfl S.co S.gen rfl (PySem.W.codeRec_of seen hcd) (hb _ _ _ _ (wpAny_newFunctionEnv_cells S.kind (fun ⟨n, v⟩ hy => ?_) fun env he s1 x => ?_))
  · exact (S.par n (List.of_mem_zip hy).1).imp id fun q => ⟨q, PySem.W.cellsFrom_some _ _ _ (.inl q)⟩
  · subst he
    obtain ⟨t, ht, hq⟩ := hbody cdv A outer s H vs Q E hA (hr.deeper _) hsp
    have I := inv_start (CX := CX0) (E := E) S hr.hd e0 hl r x
    refine ⟨(e0.mod.nolimit.keeps kept).keeps x.toInCall.keep, codeAny_func (wpAny_mono (ht.nox.run [] s1 (start N vs) H _ I hq) (fun fl s' hs => ?_) fun _ _ hs => hs)⟩
    cases fl with
    | next =>
      obtain ⟨_, H', J, q⟩ := hs
      exact ⟨.non, H', J.os, J.bare, J.base, J.hok, rfl, q⟩
    | ret u =>
      obtain ⟨v, _, H', J, rv, q⟩ := hs
      exact ⟨v, H', J.os, J.bare, J.base, J.hok, rv, q⟩
    | brk =>
      obtain ⟨_, _, _, q⟩ := hs
      exact q.elim
    | cont =>
      obtain ⟨_, _, _, q⟩ := hs
      exact q.elim
end
section
variable {X : Cx} {CX : CXT} {k : Nat} {f : Addr} {fd : FuncData} {ps : List Str} {sp : Sp} {E : XK} {x : Str} {p pos : Pos} {e : Expr} {es : List Expr} {t : TA}
/-- f(e, ..) of such a def -/
theorem pe_callG (F : FnG X.prog X.w X.K X.mg X.base CX k f fd ps sp) (hA : X.A.guards = some []) (hr : Room k X.A) (hg : Gl X x) (hm : X.mg x = some (.ref f)) (hk : PySem.W.keepIn X.K (.ref f) = true) (hb : Binds X.K fd ps []) (hx : Passes CX X E)
    (ha : PA X (e :: es) t) (hdb : (x == ("__debug__" : Str)) = false := by decide) (he : starEach (e :: es) X.env = (false, eval e X.env) :: starEach es X.env := by rfl) (hpl : (backTo pos (starEach es X.env)).any (·.1) = false := by rfl) :
    PE X (.Call (.Name x p) (e :: es) [] pos) (tCall sp [] E t) := by
  refine ⟨fun pins s σ H Q I h => wpAny_Call_Name_kw (ld_glob I hg hm ?_ hdb)⟩
  refine PySem.W.callWith_K (h₀ := X.base) I.ok.mod.kin hk (thn (ha.run pos pins s σ H _ I h) fun us s1 ⟨vs, H1, J, r, q⟩ => ⟨J.kIn, ?_⟩) he hpl
  have q : sp vs H1 Q E := by
    have h : sp (vs ++ []) H1 Q E := q
    rwa [List.append_nil] at h
  show wpAny _ _ (call (.ref f) us) _ _ _
  have b := hb s1 us J.kIn (by rw [List.append_nil, ← r.length]; exact F.len _ _ _ _ q)
  rw [List.append_nil] at b
  refine wpAny_call (codeAny_mono (F.run X.A X.stack s1 H1 ⟨us, []⟩ us vs Q E hA hr J.env0 b r q) fun r' s' z => ?_)
  match r', z with
  | .error e, z => exact hx pins σ H1 s1 e s' J z
  | .ok (.ret u), z => exact J.after z
  | .ok .next, z => exact False.elim z
  | .ok .brk, z => exact False.elim z
  | .ok .cont, z => exact False.elim z
/-- repr(v) of plain data -/
def rRepr (K : PySem.W.Frag) : List V → Hp → VK → Prop := fun xs H Q => ∃ (x : V) (d : PyData), xs = [x] ∧ Dp K H x d ∧ d.showable = true ∧ d.hasDict = false ∧ d.depth ≤ 30 ∧ (d.shown.length ≤ 10000 ∨ ∃ i, d = .int i) ∧ Q (.str d.shown) H
theorem call_reprG {X : Cx} (hA : X.A.guards = some []) (hu : X.A.units + 64 < cLine) : CallR X (.builtin "repr") (rRepr X.K) := by
  intro pins s σ H xs us Q I r h
  obtain ⟨x, d, rfl, hd, hs, hn, hdp, hz, q⟩ := h
  obtain ⟨u, rfl, rx⟩ := vals1 r
  obtain ⟨as, rd⟩ := Dp.reads I d x u hd rx
  have fits : (∀ i, d ≠ .int i) → d.shown.length ≤ sizeLine := fun h => by
    rcases hz with z | ⟨i, z⟩
    · rw [sizeLine_eq]; omega
    · exact absurd z (h i)
  cases hd with
  | non => cases (show u = Value.none from rx); exact PySem.P.repr_of_none ⟨.str (PyData.shown .none), H, I.tok _, ⟨_, rfl⟩, q⟩
  | bl b => cases (show u = Value.bool b from rx); exact PySem.P.repr_of_bool ⟨.str (PyData.shown (.bool b)), H, I.tok _, ⟨_, rfl⟩, q⟩
  | int i =>
    obtain ⟨t, rfl⟩ := (show ∃ t, u = Value.int i t from rx)
    exact PySem.P.repr_of_int (of_decide_eq_true hs) ⟨.str (PyData.shown (.int i)), H, I.tok _, ⟨_, rfl⟩, q⟩
  | str z =>
    obtain ⟨t, rfl⟩ := (show ∃ t, u = Value.str z t from rx)
    exact PySem.P.repr_of_str ⟨.str (PyData.shown (.str z)), H, I.tok _, ⟨_, rfl⟩, q⟩ (fits fun _ z => by cases z)
  | lst _ _ =>
    cases (show u = Value.ref _ from rx)
    exact repr_of_reads' rd hs (fun z => by rw [hn] at z; cases z) hA (by omega) (fun _ _ e => e) (fun h' t tk hk => ⟨.str (PyData.shown _), H, I.kept hk, ⟨_, rfl⟩, q⟩) (fits fun _ z => by cases z)
  | tup _ _ =>
    cases (show u = Value.ref _ from rx)
    exact repr_of_reads' rd hs (fun z => by rw [hn] at z; cases z) hA (by omega) (fun _ _ e => e) (fun h' t tk hk => ⟨.str (PyData.shown _), H, I.kept hk, ⟨_, rfl⟩, q⟩) (fits fun _ z => by cases z)
end
end L2
namespace L2
open PySem PySem.Spec PyProof.Rows
/-- the law's def, asked at the top, where no repr is under way -/
theorem law_askG {P : Program} {w : World} {K : PySem.W.Frag} {mg mb : Str → Option Value} {CX : CXT} {k : Nat} {fa a : Addr} {fd : FuncData} {x : Str} {sp : Sp} {s₁ : Shared} {vs : List Value} {ns : List Int}
    (KX : K.In s₁.heap) (hns : s₁.heap.Ns mainGlobals mg) (hb : s₁.heap.Ns builtinsNs mb) (hbb : ∀ x : Str, x ≠ "__name__" → mb x = bootBuiltins x) (hlim : s₁.heap.NoLimit) (hg : s₁.gens = #[])
    (ha : s₁.heap.get? a = some { cls := .type "list", data := .seq vs.toArray }) (hi : IntsAre vs ns) (hl : ns.length ≤ sizeLine) (hr : Room k callerA)
    (F : ∀ base : Heap, K.In base → base.Ns mainGlobals mg → FnG P w K mg base CX k fa fd [x] sp) (hbind : ∀ (s : Shared) (u : Value), BindsTo s fd ⟨[u], []⟩ [(x, u)])
    (hsp : ∀ H : Hp, Only H → SqL K H a (ns.map V.int) → sp [.ref a] H (fun v _ => v = .bl true) fun _ _ _ => False)
    (hCX : ∀ H e s', CX [] H s₁ (fun _ _ _ => False) e s' → False) :
    codeAny (model P w) callerA (.call (.ref fa) ⟨[.ref a], []⟩) (fun r s' => r = .ok (.ret (.bool true)) ∧ OldK s₁.heap s'.heap ∧ s'.os = s₁.os ∧ AllBare s'.gens) s₁ := by
  have rv := vals_ints hi
  -- what is told of the heap: the script, if it is none of the module's own objects
  obtain ⟨H, hH, hS, hok, hK⟩ : ∃ H : Hp, (∀ b, H b = none ∨ (b = a ∧ ∃ o xs, H b = some (.frz o (.lst xs)))) ∧ SqL K H a (ns.map V.int) ∧ HOk P w H s₁.heap ∧ (∀ b o, K.lookup b = some o → H b = none) := by
    cases hk : K.lookup a with
    | some o =>
      obtain rfl : o = { cls := .type "list", data := .seq vs.toArray } := Option.some.inj ((KX a o hk).symm.trans ha)
      exact ⟨fun _ => none, fun _ => .inl rfl, .inr ⟨_, vs.toArray, _, hk, rfl, rfl, rfl, by rw [List.size_toArray, hi.length]; exact hl, rv⟩, fun _ _ z => (by cases z), fun _ _ _ => rfl⟩
    | none =>
      refine ⟨fun b => if b = a then some (.frz { cls := .type "list", data := .seq vs.toArray } (.lst (ns.map V.int))) else none, fun b => ?_, .inl (.inr ⟨_, if_pos rfl⟩), fun b u z => ?_, fun b o hb => ?_⟩
      · by_cases e : b = a
        · exact .inr ⟨e, _, _, if_pos e⟩
        · exact .inl (if_neg e)
      · by_cases e : b = a
        · subst e
          cases (if_pos rfl).symm.trans z
          exact ⟨ha, by rw [List.length_map]; exact hl, vs, _, rv, ha⟩
        · cases (if_neg e).symm.trans z
      · refine if_neg fun e => ?_
        rw [e, hk] at hb
        cases hb
  have hO : Only H := fun b => (hH b).imp id fun h => h.2
  -- the ground: all but the script
  have keepNs : ∀ {b : Addr} {m : Str → Option Value}, s₁.heap.Ns b m → (hidT s₁.heap H).Ns b m := fun {b m} ⟨o, es, ep, e, d, r⟩ => by
    refine ⟨o, es, ep, hidT_get e ?_, d, r⟩
    rcases hH b with h | ⟨rfl, _⟩
    · exact h
    · cases ha.symm.trans e
      cases (show Data.seq vs.toArray _ = Data.dict es ep from d)
  have inK : K.In (hidT s₁.heap H) := fun b o e => hidT_get (KX b o e) (hK b o e)
  obtain ⟨mc, l1, l2⟩ := hlim
  have e0 : Env0 P w K mg (hidT s₁.heap H) callerA [] s₁ H := ⟨rfl, ⟨inK, keepNs hns, ⟨mb, keepNs hb, hbb⟩, ⟨mc, keepNs l1, l2⟩⟩, fun _ _ e => of_hidT e, Nat.le_of_eq (hidT_size _ _), trivial, fun _ z => (nomatch (show _ ∈ ([] : List Addr) from z)), hok, .of_eq hg⟩
  refine codeAny_mono ((F _ inK (keepNs hns)).run callerA [] s₁ H ⟨[.ref a], []⟩ [.ref a] [.ref a] _ _ rfl hr e0 (hbind s₁ (.ref a)) (.cons rfl .nil) (hsp H hO hS)) fun r s' h => ?_
  match r, h with
  | .error e, h => exact (hCX H e s' h).elim
  | .ok .next, h => exact False.elim h
  | .ok .brk, h => exact False.elim h
  | .ok .cont, h => exact False.elim h
  | .ok (.ret u), h =>
    obtain ⟨v, H', os, bare, un, hok', rv', hv⟩ := h
    obtain rfl : v = .bl true := hv
    obtain rfl : u = Value.bool true := rv'
    refine ⟨rfl, OldK.of_keep fun b o e => ?_, os, bare⟩
    rcases hH b with hb0 | ⟨_, ob, xs, hb0⟩
    · exact un.keep b o e hb0 (fun z => (nomatch (show b ∈ ([] : List Addr) from z))) (by simp)
    · obtain ⟨g1, _⟩ := hok b _ hb0
      cases g1.symm.trans e
      exact (hok' b _ (un.frzs b _ _ hb0)).1
theorem walk_ofG {l : PySem.W.OpenLaw} {n k : Nat} {q : Program} {loose : List Str} {XP : (Str → Option Value) → Heap → Prop} {YP : World → Heap → Prop} {d : DefRec} {K : Params → PySem.W.Frag} {CX : World → CXT} {sp : World → Sp} {x : Str}
    (hn : l.most = some n) (hn2 : n ≤ sizeLine) (hdf : d.params.defaults = []) (hr : Room k callerA) (hY : ∀ (w : World) (h : Heap), YP w h → (K w.params).In h)
    (F : ∀ (w : World) (mg : Str → Option Value) (fa : Addr) (h : Heap), (K w.params).In h → h.Ns mainGlobals mg → mg d.name = some (.ref fa) →
      ∃ fd : FuncData, (∀ (s : Shared) (u : Value), BindsTo s fd ⟨[u], []⟩ [(x, u)]) ∧ ∀ base : Heap, (K w.params).In base → base.Ns mainGlobals mg → FnG l.prog w (K w.params) mg base (CX w) k fa fd [x] (sp w))
    (hsp : ∀ (w : World) (H : Hp) (a : Addr) (ns : List Int), ns.length ≤ n → Only H → SqL (K w.params) H a (ns.map V.int) → sp w [.ref a] H (fun v _ => v = .bl true) fun _ _ _ => False)
    (hCX : ∀ (w : World) (H : Hp) (s : Shared) (e : Value) (s' : Shared), CX w [] H s (fun _ _ _ => False) e s' → False) :
    PySem.W.WalkO q loose XP YP l.row.toRowW d [] (fun f vs => PySem.call f vs) :=
  Att.attach_call hn hdf fun w s₀ s₁ mg mb fa o pm cd doc a vs ns G Y ho hd hcd hmg hobj hints hlen hg => by
    obtain ⟨fd, hb, hF⟩ := F w mg fa _ (hY w _ Y) G.T.g hmg
    exact law_askG (hY w _ Y) G.T.g G.T.b G.T.builtins G.T.nolimit hg hobj hints (Nat.le_trans hlen hn2) hr hF hb (fun H hO hS => hsp w H a ns hlen hO hS) fun H e s' => hCX w H s₁ e s'
end L2

namespace L2
open PySem PySem.Spec PyProof.Rows
/-! ### own errors whose context is told: raised, caught, handed on to a def -/
section
variable {P : Program} {w : World} {K : PySem.W.Frag} {mg : Str → Option Value} {base : Heap}
/-- a def that may raise -/
theorem Fun.okN {x qual : Str} {st : Stmt} {f : Addr} {fd : FuncData} {N ps : List Str} {k : Nat} {sp : Sp} (F : Fun K x qual st f fd) (S : FnScope N ps (defScope st)) (len : ∀ vs H Q E, sp vs H Q E → vs.length = ps.length)
    (hbody : ∀ (cdv : Value) (A : Around) (outer : List Env) (s : Shared) (H : Hp) (vs : List V) (Q : VK) (E : XK), Room k (A.deeper (envOfC qual (defScope st) s.heap.objs.size f cdv)) → sp vs H Q E →
      ∃ t, PSs (cxOf (L2N.CX P w) P w K mg base N qual (defScope st) f cdv A outer s H E) (defBody st) t ∧ t { nx := fun _ H' => Q .non H', rt := Q } (start N vs) H) : FnOk P w K mg base (L2N.CX P w) (k + 1) f fd ps sp := by
  obtain ⟨oc, od, kV, doc, pm, an, cdv, ct, osl, rfl, lk, hcd⟩ := F.ex
  exact fn_of lk hcd S len (hbody cdv)
theorem passN {X : Cx} : Passes (L2N.CX X.prog X.w) X E0 := fun _ _ _ _ _ _ _ ⟨_, _, _, _, _, _, _, _, _, _, _, _, z⟩ => z.elim
theorem takesN0 {X : Cx} : L2N.Takes X (fun _ _ _ _ => False) := fun _ _ ⟨_, _, _, _, _, _, _, _, _, _, _, _, _, _, _, _, z⟩ => z.elim
/-- an own error made by its own __init__, its context told -/
theorem pmk_oexN {X : Cx} {CX : CXT} {x : Str} {e : Expr} {es : List Expr} {ta : TA} {p pos : Pos} {C fI : Addr} {k : Nat} {fd : FuncData} {ps : List Str} {sp : Sp} (T : OexC X.K C) (iC : PySem.W.findIn X.K (.ref C) "__init__" = some (some (.ref fI))) (tI : PySem.W.typeIn X.K (.ref fI) = some (.type "function"))
    (F1 : FnOk X.prog X.w X.K X.mg X.base CX k fI fd ps sp) (hr : Room (k + 1) X.A) (hb : Binds X.K fd ps []) (hx : Passes CX X (fun _ _ _ => False)) (hg : Gl X x) (hm : X.mg x = some (.ref C)) (ha : PA X (e :: es) ta)
    (hdb : (x == ("__debug__" : Str)) = false := by decide) (he : starEach (e :: es) X.env = (false, eval e X.env) :: starEach es X.env := by rfl) (hpl : (backTo pos (starEach es X.env)).any (·.1) = false := by rfl) :
    L2N.PMk X (.Call (.Name x p) (e :: es) [] pos) (tMkO C sp [] ta) := by
  intro pins s σ H Q I h
  obtain ⟨_, _, _, _, bm, _, _, _, _, _, _, _, _, _, _, hC, hbm⟩ := T.cls
  refine wpAny_Call_Name_kw (ld_glob I hg hm ?_ hdb)
  refine PySem.W.callWith_K (h₀ := X.base) I.ok.mod.kin T.kC (thn (ha.run pos pins s σ H _ I h) fun us ⟨hp, g, dr, tk, os⟩ ⟨vs, H1, J, r, hz, q⟩ => ⟨J.kIn, ?_⟩) he hpl
  show wpAny _ _ (call (.ref C) us) _ _ _
  -- where the error will stand
  let n := hp.objs.size + 1
  have hn : hp.objs.size ≤ n := Nat.le_succ _
  let hp2 := (hp.push (PySem.W.kdv_tup us)).push (PySem.HandSPX.excO C hp.objs.size)
  have keeps : ∀ b o, hp.get? b = some o → hp2.get? b = some o := fun b o z => Heap.get?_push_of_some _ (Heap.get?_push_of_some _ z)
  have there : hp2.get? n = some (PySem.HandSPX.excO C hp.objs.size) := by
    show ((hp.push (PySem.W.kdv_tup us)).push (PySem.HandSPX.excO C hp.objs.size)).get? (hp.objs.size + 1) = _
    heap_get
  have J2 : Inv X pins σ (upd H1 n (exo n C none)) ⟨hp2, g, dr, tk, os⟩ := J.laid (t' := tk) keeps hn (exo_ok there)
  have q1 := q n (J.hok.fresh hn)
  rw [List.append_nil] at q1
  have r2 : Vals (V.ref n :: vs) (Value.ref n :: us) := .cons rfl r
  have b2 := hb ⟨hp2, g, dr, tk, os⟩ (Value.ref n :: us) J2.kIn (by rw [List.append_nil, ← r2.length]; exact F1.len _ _ _ _ q1)
  rw [List.append_nil] at b2
  refine wpAny_call (PySem.HandSPX.call_own F.excBase_ValueError (fun Y => PySem.HandSPX.refsVE_contains Y bm hbm) (J.kIn _ _ hC) (PySem.W.looks_findIn J.kIn iC) (fun self => PySem.W.bind_fn J.kIn self tI) (by rw [← Paired.length r, sizeLine_eq]; omega)
    (codeAny_mono (F1.run _ X.stack _ _ ⟨Value.ref n :: us, []⟩ _ _ _ (fun _ _ _ => False) (hr.make C us []) (J2.env0.make C us []) b2 r2 q1) fun r' ⟨h2, g2, d2, t2, o2⟩ z => ?_))
  match r', z with
  | .error er, z => exact hx pins σ _ _ er _ J2 z
  | .ok .next, z => exact False.elim z
  | .ok .brk, z => exact False.elim z
  | .ok .cont, z => exact False.elim z
  | .ok (.ret u), z =>
    obtain ⟨v, H2, eo, bare, un, hok, rv, ev, d, fs, ea, ed, hd, qq⟩ := z
    subst ev
    obtain ⟨t0, G, JG, kG, gn, hoe, na⟩ := mk_end0 (d2 := d2) (t2 := t2) J hn keeps un hok eo bare ea ed hd
    exact ⟨rv, n, _, _, ⟨G, g2, d2, t2, o2⟩, _, .ref C, some d, rfl, JG, kG, gn, hoe, ⟨rfl, rfl, fun vs hv => by cases hv; rfl⟩, rfl, rfl, na, rfl, bare, raises_own T.exC T.tyC, qq⟩
end
end L2
namespace L2
open PySem PySem.Spec PyProof.Rows
/-! ### a def to which the caught error is handed -/
/-- err.f, wherever the error is kept aside -/
theorem pe_xfP {X : Cx} {a C : Addr} {oe : Obj} {cls : Value} {d : Option Addr} {e : Expr} {te : TE} {pos : Pos} {n : Str} (T : XfC X.K C) (hno : PySem.W.findIn X.K (.ref C) n = some none) (hp : (a, oe) ∈ X.pn) (hz : Zc cls d oe) (hf : ∃ vs, oe.data = .fields vs) (he : PE X e te)
    (hb : attributeBase e n X.env (eval e X.env) = eval e X.env := by rfl) : PE X (.Attribute e n pos) (tXf a cls d C n te) := by
  refine ⟨fun pins s σ H Q I h => attr_of hb (thn (he.run pins s σ H _ I h) fun u s1 ⟨x, H1, J, rx, ex, ec, dd, fs, v, ed, ea, l, q⟩ => ?_)⟩
  subst ex ec ed
  obtain rfl : u = Value.ref a := rx
  obtain ⟨vs, hv⟩ := hf
  obtain ⟨mA, hns, hr⟩ := (show ObjOk X.prog X.w H1 s1.heap dd (.xd fs) from J.hok dd _ ea)
  obtain ⟨od, ho, hl⟩ := lookIn_ns hns
  obtain ⟨u', hu, ru⟩ := RelO.some_of (v := v) (o := mA n) (by rw [← l]; exact hr n)
  have inst : PySem.W.InstAt s1.heap a oe C (some od) := ⟨(J.pin (a, oe) (List.mem_append_left _ hp)).1, hz.1, by unfold PySem.W.notCls; rw [hv] <;> rfl, by rw [hz.2]; exact ho⟩
  exact HandSPX.exc_get J.kIn inst T.ga T.gg T.exC (PySem.W.findObj_own T.hdC hno rfl (by rw [hl, hu])) (handed_of ru) ⟨v, H1, J.tok _, ru, q⟩
theorem _root_.L2H.RoomH.units {k : Nat} {A : Around} (r : L2H.RoomH k A) : A.units + 64 < cLine := by have := r.un; omega
structure FnE (P : Program) (w : World) (K : PySem.W.Frag) (mg : Str → Option Value) (base : Heap) (k : Nat) (f : Addr) (fd : FuncData) (ps : List Str) (sp : Addr → Value → Option Addr → Sp) : Prop where
  len : ∀ a cls d vs H Q E, sp a cls d vs H Q E → vs.length = ps.length
  run : ∀ (A : Around) (outer : List Env) (s : Shared) (H : Hp) (args : Args) (us : List Value) (vs : List V) (Q : VK) (a : Addr) (oe : Obj) (cls : Value) (d : Option Addr), A.guards = some [] → L2H.RoomH k A → L2H.Hot1 A (a, oe) → Zc cls d oe → L2H.PinOk outer H s (a, oe) →
    Env0 P w K mg base A outer s H → BindsTo s fd args (ps.zip us) → Vals vs us → sp a cls d vs H Q E0 → codeAny (model P w) A (.call (.ref f) args) (CR CX0 outer P w H s Q E0) s
section
variable {P : Program} {w : World} {K : PySem.W.Frag} {mg : Str → Option Value} {base : Heap}
theorem Fun.okE {x qual : Str} {st : Stmt} {f : Addr} {fd : FuncData} {N ps : List Str} {k : Nat} {sp : Addr → Value → Option Addr → Sp} (F : Fun K x qual st f fd) (S : FnScope N ps (defScope st)) (len : ∀ a cls d vs H Q E, sp a cls d vs H Q E → vs.length = ps.length)
    (hbody : ∀ (cdv : Value) (A : Around) (outer : List Env) (s : Shared) (H : Hp) (vs : List V) (Q : VK) (a : Addr) (oe : Obj) (cls : Value) (d : Option Addr), A.guards = some [] → Zc cls d oe → (∃ vs, oe.data = .fields vs) → L2H.RoomH k (A.deeper (envOfC qual (defScope st) s.heap.objs.size f cdv)) → sp a cls d vs H Q E0 →
      ∃ t, PSs (L2H.cxH CX0 P w K mg base N qual (defScope st) f cdv A outer s H E0 (a, oe)) (defBody st) t ∧ t { nx := fun _ H' => Q .non H', rt := Q } (start N vs) H) : FnE P w K mg base (k + 1) f fd ps sp := by
  obtain ⟨oc, od, kV, doc, pm, an, cdv, ct, osl, rfl, lk, hcd⟩ := F.ex
  refine ⟨len, fun A outer s H args us vs Q a oe cls d hA hr hot hz hpin e0 hb r hsp => ?_⟩
  have hl := len _ _ _ _ _ _ _ hsp
  have kept : ∀ b o, base.get? b = some o → s.heap.get? b = some o := fun b o e => (e0.bs b o e).1
  have seen := e0.mod.kin.keeps kept
  refine codeAny_call_function hr.depth (seen _ _ lk) rfl S.co S.gen rfl (PySem.W.codeRec_of seen hcd) (hb _ _ _ _ (wpAny_newFunctionEnv_cells S.kind (fun ⟨n, v⟩ hy => ?_) fun env he s1 x => ?_))
  · exact (S.par n (List.of_mem_zip hy).1).imp id fun q => ⟨q, PySem.W.cellsFrom_some _ _ _ (.inl q)⟩
  · subst he
    obtain ⟨v0, hv0, _⟩ := hot.2
    obtain ⟨t, ht, hq⟩ := hbody cdv A outer s H vs Q a oe cls d hA hz ⟨v0, hv0⟩ (hr.deeper _) hsp
    have I := L2H.inv_startH (CX := CX0) (E := E0) S hpin e0 hl r x
    refine ⟨(e0.mod.nolimit.keeps kept).keeps x.toInCall.keep, codeAny_func (wpAny_mono (ht.run [] s1 (start N vs) H _ I hq) (fun fl s' hs => ?_) fun _ _ hs => hs)⟩
    cases fl with
    | next =>
      obtain ⟨_, H', J, q⟩ := hs
      exact ⟨.non, H', J.os, J.bare, J.base, J.hok, rfl, q⟩
    | ret u =>
      obtain ⟨v, _, H', J, rv, q⟩ := hs
      exact ⟨v, H', J.os, J.bare, J.base, J.hok, rv, q⟩
    | brk =>
      obtain ⟨_, _, _, q⟩ := hs
      exact q.elim
    | cont =>
      obtain ⟨_, _, _, q⟩ := hs
      exact q.elim
end
/-- f(e, ..) within the suite -/
theorem pe_callE {X : Cx} {k : Nat} {f : Addr} {fd : FuncData} {ps : List Str} {sp : Addr → Value → Option Addr → Sp} {x : Str} {p pos : Pos} {e : Expr} {es : List Expr} {t : TA} {a : Addr} {oe : Obj} {cls : Value} {d : Option Addr} {pn : List (Addr × Obj)}
    (F : FnE X.prog X.w X.K X.mg X.base k f fd ps sp) (hA : X.A.guards = some []) (hr : Room k X.A) (hz : L2N.Zn cls d oe) (hf : ∃ vs, oe.data = .fields vs) (hg : Gl X x) (hm : X.mg x = some (.ref f)) (hk : PySem.W.keepIn X.K (.ref f) = true) (hb : Binds X.K fd ps [])
    (ha : PA (X.suite a ((a, oe) :: pn)) (e :: es) t) (hdb : (x == ("__debug__" : Str)) = false := by decide) (he : starEach (e :: es) X.env = (false, eval e X.env) :: starEach es X.env := by rfl) (hpl : (backTo pos (starEach es X.env)).any (·.1) = false := by rfl) :
    PE (X.suite a ((a, oe) :: pn)) (.Call (.Name x p) (e :: es) [] pos) (tCall (sp a cls d) [] E0 t) := by
  refine ⟨fun pins s σ H Q I h => wpAny_Call_Name_kw (ld_glob (X := X.suite a ((a, oe) :: pn)) I hg hm ?_ hdb)⟩
  refine PySem.W.callWith_K (h₀ := X.base) I.ok.mod.kin hk (thn (ha.run pos pins s σ H _ I h) fun us s1 ⟨vs, H1, J, r, q⟩ => ⟨J.kIn, ?_⟩) he hpl
  have q : sp a cls d vs H1 Q E0 := by
    have h : sp a cls d (vs ++ []) H1 Q E0 := q
    rwa [List.append_nil] at h
  show wpAny _ _ (call (.ref f) us) _ _ _
  have b := hb s1 us J.kIn (by rw [List.append_nil, ← r.length]; exact F.len _ _ _ _ _ _ _ q)
  rw [List.append_nil] at b
  obtain ⟨v0, hv0⟩ := hf
  have P1 := J.pin (a, oe) (List.mem_append_left _ List.mem_cons_self)
  have pin : L2H.PinOk X.stack H1 s1 (a, oe) := ⟨P1.1, P1.2.1, fun z => (List.mem_cons.mp (J.stkSub a z)).elim P1.2.2.1 P1.2.2.2.1, P1.2.2.2.2⟩
  refine wpAny_call (codeAny_mono (F.run (X.A.mark (some (.ref a))) X.stack s1 H1 ⟨us, []⟩ us vs Q a oe cls d hA ⟨hr.dp, hr.un⟩ ⟨rfl, v0, hv0, hz.2.2 _ hv0⟩ hz.zc pin J.env0 b r q) fun r' s' z => ?_)
  match r', z with
  | .error _, z => exact False.elim z
  | .ok (.ret u), z => exact J.after z
  | .ok .next, z => exact False.elim z
  | .ok .brk, z => exact False.elim z
  | .ok .cont, z => exact False.elim z
end L2
namespace L2
open PySem PySem.Spec PyProof.Rows
section
variable {P : Program} {w : World} {K : PySem.W.Frag} {mg : Str → Option Value} {base : Heap} {CX : CXT} {k : Nat} {f : Addr} {fd : FuncData} {ps : List Str} {sp sp' : Sp}
/-- where nothing is let out, anything may be promised of it -/
theorem FnOk.cx0 (F : FnOk P w K mg base CX0 k f fd ps sp) : FnOk P w K mg base CX k f fd ps sp := ⟨F.len, fun A outer s H args us vs Q E hr e0 hb r h => codeAny_mono (F.run A outer s H args us vs Q E hr e0 hb r h) fun r' s' z => by
  match r', z with
  | .error _, z => exact False.elim z
  | .ok (.ret u), z => exact z
  | .ok .next, z => exact z
  | .ok .brk, z => exact z
  | .ok .cont, z => exact z⟩
theorem FnOk.or (F : FnOk P w K mg base CX k f fd ps sp) (F' : FnOk P w K mg base CX k f fd ps sp') : FnOk P w K mg base CX k f fd ps (fun vs H Q E => sp vs H Q E ∨ sp' vs H Q E) :=
  ⟨fun vs H Q E h => h.elim (F.len vs H Q E) (F'.len vs H Q E), fun A outer s H args us vs Q E hr e0 hb r h => h.elim (F.run A outer s H args us vs Q E hr e0 hb r) (F'.run A outer s H args us vs Q E hr e0 hb r)⟩
end
/-- o.m() in a try -/
theorem pe_methT0 {X : Cx} {CX : CXT} {k : Nat} {f C : Addr} {fd : FuncData} {ps : List Str} {sp : Sp} {E : St → XK} {m : Str} {pos apos : Pos} {o : Expr} {ta : TE} {pl : Sem Bool} (he : PE X o ta) (c : Cls X.K C) (hm : Meth X.K C m f) (F : FnOk X.prog X.w X.K X.mg X.base CX k f fd ps sp) (hr : Room k X.A) (hb : Binds X.K fd ps []) (hx : ∀ σ, PassesAt CX X σ (E σ))
    (ht : eval (.Call (.Attribute o m apos) [] [] pos) X.env = (do
      let ov ← eval o X.env
      standAt apos.atName
      let (f, first) ← holding [ov] (getMethod ov m pl)
      callWith pos f first (backTo pos (starEach [] X.env)) (backToKw pos (keywordEach [] X.env))) := by rfl) :
    PE X (.Call (.Attribute o m apos) [] [] pos) (tMethT C m sp [] E ta tNil) := by
  refine ⟨fun pins s σ H Q I h => PySem.W.methodCall_KW (pl := pl) (thn (he.run pins s σ H _ I h) fun u s1 ⟨x, H1, J, rx, a, dx, fs, ex, ea, l, q⟩ => ?_) ht⟩
  subst ex
  obtain rfl : u = Value.ref a := rx
  exact getmeth_ok J ea c hm l (PySem.W.callWith_K0 (first := [.ref a]) J.kIn hm.kp (run_fnT (us := [.ref a]) (vs := [.ref a]) F hr hb .nil (hx σ) J (.cons rfl .nil) q))
end L2
namespace L2
open PySem PySem.Spec PyProof.Rows
theorem k_isX {X : Cx} {K : PySem.W.Frag} {a : Addr} {oe : Obj} {cls : Value} {d : Option Addr} (hK : X.K = K) (hp : (a, oe) ∈ X.pn) (hz : Zc cls d oe) (hf : ∃ vs, oe.data = .fields vs) : CallR X (.builtin "isinstance") (rIsX K a cls d) := by
  subst hK
  exact call_isX hp hz hf
theorem k_reprG {X : Cx} {K : PySem.W.Frag} (hK : X.K = K) (hA : X.A.guards = some []) (hu : X.A.units + 64 < cLine) : CallR X (.builtin "repr") (rRepr K) := by
  subst hK
  exact call_reprG hA hu
end L2

namespace L2
open PySem PySem.Spec PyProof.Rows
/-! ### data whose repr is short -/
structure ShW (d : PyData) (n w : Nat) : Prop where
  ok : d.showable = true
  nod : d.hasDict = false
  deep : d.depth ≤ n
  short : d.leavesShort 13 = true
  wt : d.bulk ≤ w
structure ShA (ds : List PyData) (n w : Nat) : Prop where
  ok : PyData.showableAll ds = true
  nod : PyData.hasDictAll ds = false
  deep : PyData.depthAll ds ≤ n
  short : PyData.leavesShortAll 13 ds = true
  wt : PyData.bulkAll ds ≤ w
theorem log_sm {n : Nat} (h : n < 10 ^ 12) : n.log2 < 1920 := by
  by_cases h0 : n = 0
  · rw [h0]; decide
  · have h2 : n < 2 ^ 40 := Nat.lt_of_lt_of_le h (by decide)
    exact Nat.lt_of_lt_of_le ((Nat.log2_lt h0).mpr h2) (by omega)
theorem ShW.int {i : Int} (h : i.natAbs < 10 ^ 12) : ShW (.int i) 0 0 :=
  ⟨by simp only [PyData.showable]; exact decide_eq_true (log_sm h), by simp only [PyData.hasDict], by simp only [PyData.depth]; exact Nat.le_refl _, by simp only [PyData.leavesShort]; exact decide_eq_true (PyData.shown_int_le h), by simp only [PyData.bulk]; exact Nat.le_refl _⟩
theorem ShA.nil {n w : Nat} : ShA [] n w := ⟨by simp only [PyData.showableAll], by simp only [PyData.hasDictAll], by simp only [PyData.depthAll]; exact Nat.zero_le _, by simp only [PyData.leavesShortAll], by simp only [PyData.bulkAll]; exact Nat.zero_le _⟩
theorem ShA.cons {d : PyData} {ds : List PyData} {n w w' : Nat} (h : ShW d n w) (h' : ShA ds n w') : ShA (d :: ds) n (w + 1 + w') :=
  ⟨by simp only [PyData.showableAll, h.ok, h'.ok, Bool.and_self], by simp only [PyData.hasDictAll, h.nod, h'.nod, Bool.or_self], by
    simp only [PyData.depthAll]
    exact Nat.max_le.mpr ⟨h.deep, h'.deep⟩, by simp only [PyData.leavesShortAll, h.short, h'.short, Bool.and_self], by
    simp only [PyData.bulkAll]
    have := h.wt
    have := h'.wt
    omega⟩
theorem ShA.lst {ds : List PyData} {n w : Nat} (h : ShA ds n w) : ShW (.list ds) (n + 1) w :=
  ⟨by simp only [PyData.showable, h.ok], by simp only [PyData.hasDict, h.nod], by
    simp only [PyData.depth]
    have := h.deep
    omega, by simp only [PyData.leavesShort, h.short], by simp only [PyData.bulk]; exact h.wt⟩
theorem ShA.tup {ds : List PyData} {n w : Nat} (h : ShA ds n w) : ShW (.tuple ds) (n + 1) w :=
  ⟨by simp only [PyData.showable, h.ok], by simp only [PyData.hasDict, h.nod], by
    simp only [PyData.depth]
    have := h.deep
    omega, by simp only [PyData.leavesShort, h.short], by simp only [PyData.bulk]; exact h.wt⟩
theorem ShA.map {α : Type} {f : α → PyData} {n w : Nat} : ∀ {ds : List α}, (∀ d ∈ ds, ShW (f d) n w) → ShA (ds.map f) n ((w + 1) * ds.length)
  | [], _ => .nil
  | d :: r, h => by
    have := ShA.cons (h d List.mem_cons_self) (ShA.map (ds := r) fun x hx => h x (List.mem_cons_of_mem _ hx))
    rw [List.map_cons, List.length_cons, Nat.mul_add, Nat.mul_one, Nat.add_comm ((w + 1) * r.length)]
    exact this
theorem ShW.up {d : PyData} {n w n' w' : Nat} (h : ShW d n w) (hn : n ≤ n') (hw : w ≤ w') : ShW d n' w' := ⟨h.ok, h.nod, Nat.le_trans h.deep hn, h.short, Nat.le_trans h.wt hw⟩
theorem w_repr {K : PySem.W.Frag} {H : Hp} {Q : VK} {x : V} {d : PyData} {n w : Nat} (hd : Dp K H x d) (hs : ShW d n w) (hn : n ≤ 30) (hw : w ≤ 600) (q : Q (.str d.shown) H) : rRepr K [x] H Q := by
  refine ⟨x, d, rfl, hd, hs.ok, hs.nod, Nat.le_trans hs.deep hn, .inl ?_, q⟩
  have h := PyData.shown_le_bulk 13 (by omega) d hs.short
  have h2 : (13 + 2) * d.bulk ≤ 15 * 600 := Nat.mul_le_mul (by omega) (Nat.le_trans hs.wt hw)
  omega
theorem w_neSS {K : PySem.W.Frag} {H : Hp} {Q : VK} {s : Str} (q : Q (.bl false) H) : rNeG K (.str s) (.str s) H Q := .inl ⟨rfl, by
  rw [decide_eq_true rfl]; exact q⟩
theorem w_eqSS {K : PySem.W.Frag} {H : Hp} {Q : VK} {s : Str} (q : Q (.bl true) H) : rEqG K (.str s) (.str s) H Q := .inl ⟨rfl, by
  rw [decide_eq_true rfl]; exact q⟩
theorem w_eqSD {K : PySem.W.Frag} {H : Hp} {Q : VK} {s t : Str} (h : s ≠ t) (q : Q (.bl false) H) : rEqG K (.str s) (.str t) H Q := .inl ⟨rfl, by
  rw [decide_eq_false (fun e => h (V.str.inj e))]; exact q⟩
theorem w_neSD {K : PySem.W.Frag} {H : Hp} {Q : VK} {s t : Str} (h : s ≠ t) (q : Q (.bl true) H) : rNeG K (.str s) (.str t) H Q := .inl ⟨rfl, by
  rw [decide_eq_false (fun e => h (V.str.inj e))]; exact q⟩
theorem w_neBB {K : PySem.W.Frag} {H : Hp} {Q : VK} {b : Bool} (q : Q (.bl false) H) : rNeG K (.bl b) (.bl b) H Q := .inl ⟨rfl, by
  rw [decide_eq_true rfl]; exact q⟩
/-! ### new objects, the heap told anew -/
theorem w_newO {H : Hp} {o : HO} {F : Addr → Hp → Prop} (q : ∀ p H', H p = none → Same H H' → H' p = some o → F p H') : ∀ p, H p = none → F p (upd H p o) := fun p hp => q p _ hp (Same.new hp) upd_same
theorem sqU {K : PySem.W.Frag} {H : Hp} {q p : Addr} {xs ys : List V} {o : HO} (hq : H q = some (.lst xs)) (h : Sq false K H p ys) : Sq false K (upd H q o) p ys := by
  obtain ⟨_, e, h⟩ := RTup.upd (R := RRw false K) RRw.tup RRw.mono (o := o) (NTup.lst hq) ⟨p, rfl, h⟩
  cases e
  exact h
end L2
namespace L2
open PySem PySem.Spec PyProof.Rows
section
variable {K : PySem.W.Frag} {σ : St} {H : Hp} {Q : VK}
/-- a new object, n long -/
def NewO (Q : VK) (H : Hp) (n : Nat) (o : HO) : Prop := n ≤ sizeLine ∧ ∀ p, H p = none → Q (.ref p) (upd H p o)
theorem w_new {n : Nat} {o : HO} (hn : n ≤ 1000000) (q : ∀ p H', H p = none → Same H H' → H' p = some o → Q (.ref p) H') : NewO Q H n o :=
  ⟨by rw [sizeLine_eq]; omega, fun p hp => q p _ hp (Same.new hp) upd_same⟩
theorem w_tupN {ta : TA} (q : ta σ H fun xs H1 => NewO Q H1 xs.length (.tup xs)) : tTup ta σ H Q := q
theorem w_lstN {ta : TA} (q : ta σ H fun xs H1 => NewO Q H1 xs.length (.lst xs)) : tLst ta σ H Q := q
theorem w_listN {p : Addr} {ys : List V} {b : Bool} (h : Sq b K H p ys) (q : ∀ l H', H l = none → Same H H' → H' l = some (.lst ys) → Q (.ref l) H') : rListS K [.ref p] H Q := w_listS h fun l hl => q l _ hl (Same.new hl) upd_same
theorem w_tupNL {p : Addr} {ys : List V} (h : Sq true K H p ys) (q : ∀ l H', H l = none → Same H H' → H' l = some (.tup ys) → Q (.ref l) H') : rTupS K [.ref p] H Q := w_tupL h fun l hl => q l _ hl (Same.new hl) upd_same
/-- what is let out: an error with this field -/
def RaiseQ (E : XK) (H : Hp) (C : Addr) (f : Str) (v : V) : Prop := ∀ d H', H d = none → Same H H' → H' d = some (.xd [(f, v)]) → E (.ref C) (some d) H'
theorem w_iff {A B C : Prop} {b : Bool} (h : b = true ↔ C) (h1 : C → A) (h2 : ¬ C → B) : if b = true then A else B := by
  cases b with
  | true => exact h1 (h.mp rfl)
  | false => exact h2 fun c => nomatch h.mpr c
/-- all old objects but those at a and b stand -/
def Fr2 (a b : Addr) (H H' : Hp) : Prop := ∀ c o, c ≠ a → c ≠ b → H c = some o → H' c = some o
theorem Fr2.refl (a b : Addr) (H : Hp) : Fr2 a b H H := fun _ _ _ _ e => e
theorem Fr2.trans {a b : Addr} {H H' H'' : Hp} (f : Fr2 a b H H') (g : Fr2 a b H' H'') : Fr2 a b H H'' := fun c o h1 h2 e => g c o h1 h2 (f c o h1 h2 e)
theorem Fr2.same {a b : Addr} {H H' : Hp} (s : Same H H') : Fr2 a b H H' := fun c o _ _ e => s c o e
theorem Fr2.left {a b : Addr} {H H' : Hp} (f : Fr a H H') : Fr2 a b H H' := fun c o h _ e => f c o h e
theorem Fr2.right {a b : Addr} {H H' : Hp} (f : Fr b H H') : Fr2 a b H H' := fun c o _ h e => f c o h e
theorem Fr2.mut {a b p : Addr} {H H' : Hp} {o : HO} (f : Fr2 a b H H') (hp : H p = none) : Fr2 a b H (upd H' p o) := fun c u h1 h2 e =>
  (upd_ne (fun z => by rw [z, hp] at e; cases e)).trans (f c u h1 h2 e)
theorem Fr2.hide {a b : Addr} {H H' : Hp} (f : Fr2 a b H H') : Same (hide a (hide b H)) H' := fun c o e => by
  by_cases h1 : c = a
  · rw [h1, hide_at] at e; cases e
  · rw [hide_ne h1] at e
    by_cases h2 : c = b
    · rw [h2, hide_at] at e; cases e
    · rw [hide_ne h2] at e
      exact f c o h1 h2 e
theorem NTup.hide {a b : Addr} {H : Hp} (h : NTup (H a)) : NTup (L2.hide b H a) := by
  by_cases e : a = b
  · rw [e, hide_at]; trivial
  · rw [hide_ne e]; exact h
theorem Fr2.rep {α : Type} {R : Rep α} (hm : RMono R) (ht : RTup R) {a b : Addr} {H H' : Hp} {v : V} {x : α} (f : Fr2 a b H H') (ha : NTup (H a)) (hb : NTup (H b)) (h : R H v x) : R H' v x :=
  hm _ _ _ _ f.hide (ht _ _ _ _ (NTup.hide ha) (ht _ _ _ _ hb h))
theorem Fr2.sqT {a b p : Addr} {H H' : Hp} {xs : List V} (f : Fr2 a b H H') (ha : NTup (H a)) (hb : NTup (H b)) (h : Sq false K H p xs) : Sq false K H' p xs := by
  obtain ⟨_, e, h⟩ := f.rep (R := RRw false K) RRw.mono RRw.tup ha hb ⟨p, rfl, h⟩
  cases e
  exact h
end
end L2

namespace L2
open PySem PySem.Spec PyProof.Rows
section
variable {K : PySem.W.Frag} {σ : St} {H : Hp} {te : TE} {vs : List Nat} {Q : VK}
/-- a comprehension over a range that gives new lists -/
theorem c_freshR {n : Int} {j : Nat} (rows : List (List V)) (h1 : -(2 ^ 62) ≤ n) (h2 : n < 16000000) (hl : rows.length = n.toNat) (hw : ∀ x : V, wipe ((wipe σ vs).set j (some x)) vs = wipe σ vs)
    (hs : ∀ (i : Nat) r H1 (N : VK), (i : Int) < n → rows[i]? = some r → Same H H1 → (∀ p H2, H1 p = none → Same H1 H2 → H2 p = some (.lst r) → N (.ref p) H2) → te ((wipe σ vs).set j (some (.int (i : Int)))) H1 N)
    (k : ∀ D H', Same H H' → FRows H H' D rows → Q (.ref D) H') :
    ∃ j' : Int, [V.int n] = [.int j'] ∧ -(2 ^ 62) ≤ j' ∧ j' < 2 ^ 62 ∧ CompOk (Itr 0 j'.toNat) (gName j) tYes te vs σ H Q := by
  refine l_compGR h1 h2 (fun D i acc H' => Same H H' ∧ FRows H H' D (rows.take i)) hw (fun D hD => ⟨Same.new hD, FRows.nil hD⟩) (fun i H1 D acc NT NF hi hD st e1 hal hT hF => ?_) (fun D H' ys hD st e hly => ?_)
  · obtain ⟨s1, f1⟩ := st
    have hri : rows[i]? = some (rows[i]'(by omega)) := List.getElem?_eq_getElem (by omega)
    show te _ H1 NT
    refine hs i _ H1 NT hi hri s1 fun p H2 hp s2 ep => ?_
    obtain ⟨e2, f2⟩ := f1.next s1 e1 hp s2 ep
    refine hT _ H2 e2 ⟨Same.mut (s1.trans s2) hD, ?_⟩
    rw [List.take_add_one, hri]
    exact f2
  · rw [← hl, List.take_length] at st
    exact k D H' st.1 st.2
end
end L2

namespace L2
open PySem PySem.Spec PyProof.Rows
/-! ### isinstance with several built-in types -/
section
variable {X : Cx} {K : PySem.W.Frag} {H : Hp} {x : V} {Q : VK}
theorem k_isiT (h : X.K = K) : CallR X (.builtin "isinstance") (rIsiT K) := h ▸ call_isiT
theorem w_isi2 {tn c1 c2 : String} {tp : Addr} {b1 b2 b : Bool} (hb : (b1 || b2) = b) (hT : H tp = some (.tup [.ty c1, .ty c2])) (ht : TyX K H x (.type tn)) (h1 : kitB tn c1 = some b1) (h2 : kitB tn c2 = some b2) (q : Q (.bl b) H) : rIsiT K [x, .ref tp] H Q := by
  subst hb
  refine ⟨x, tp, _, _, [.type c1, .type c2], _, rfl, hT, .cons (.ty c1) (.cons (.ty c2) .nil), ht, ?_, q⟩
  unfold PySem.W.kitAny
  rw [kit_ty h1]
  cases b1 with
  | true => rfl
  | false =>
    show PySem.W.kitAny K _ [.type c2] = _
    unfold PySem.W.kitAny
    rw [kit_ty h2]
    cases b2 <;> rfl
end
end L2

namespace My
open PySem PySem.Spec PyProof.Rows L2
/-! ### sums of the first ones -/
def pre (ns : List Int) (j : Nat) : Int := (ns.take j).sum
theorem pre_zero (ns : List Int) : pre ns 0 = 0 := by simp [pre]
theorem pre_all (ns : List Int) : pre ns ns.length = ns.sum := by simp [pre]
theorem pre_succ {ns : List Int} {j : Nat} (h : j < ns.length) : pre ns (j + 1) = pre ns j + nth ns (j : Nat) := by
  have e : ns[j]? = some (nth ns (j : Nat)) := by
    rw [nth_nat, List.getD_eq_getElem?_getD, List.getElem?_eq_getElem h]
    rfl
  exact sum_take e
theorem pre_le {ns : List Int} (hn : ∀ x ∈ ns, (0 : Int) ≤ x) {i j : Nat} (h : i ≤ j) (hj : j ≤ ns.length) : pre ns i ≤ pre ns j := by
  induction j with
  | zero =>
    have : i = 0 := by omega
    subst this
    exact Int.le_refl _
  | succ j ih =>
    by_cases e : i = j + 1
    · subst e; exact Int.le_refl _
    · have h1 := ih (by omega) (by omega)
      have h2 := pre_succ (ns := ns) (j := j) (by omega)
      have h3 := hn _ (nth_mem (ns := ns) (i := (j : Nat)) (by omega) (by omega))
      omega

/-! ### nets in plain lists -/
def dot (us vs : List Int) : Int := (List.zipWith (· * ·) us vs).sum
def vtimes (p : Int) (M : List (List Int)) (v : List Int) : List Int := M.map fun r => dot r v % p
def vplus (p : Int) (u v : List Int) : List Int := List.zipWith (fun a b => (a + b) % p) u v
def looked (p : Int) (q : List Int) (prs : List (List Int × List Int)) (f : List Int) : List Int := prs.foldl (fun f kv => vplus p f (kv.2.map fun n => dot q kv.1 * n)) f
def zeros (q : List Int) : List Int := q.map fun _ => 0
abbrev Mat := List (List Int)
abbrev PairD := List Int × List Int
abbrev RowD := List PairD × List Int
structure NetD where
  p : Int
  emb : Mat
  sh : List Int
  lay : List (List Mat)
  out : Mat
def mt (L : List Mat) (i : Nat) : Mat := L.getD i []
def pairOf (p : Int) (L : List Mat) (x : List Int) : PairD := (vtimes p (mt L 1) x, vtimes p (mt L 2) x)
def midOf (p : Int) (L : List Mat) (prs : List PairD) (x : List Int) : List Int := vplus p x (looked p (vtimes p (mt L 0) x) (prs ++ [pairOf p L x]) (zeros (vtimes p (mt L 0) x)))
def sqOf (p : Int) (L : List Mat) (x : List Int) : List Int := (vtimes p (mt L 3) x).map fun a => a * a
def nextOf (p : Int) (L : List Mat) (prs : List PairD) (x : List Int) : List Int := vplus p (midOf p L prs x) (vtimes p (mt L 4) (sqOf p L (midOf p L prs x)))
def prsAt (rows : List RowD) (i : Nat) : List PairD := rows.map fun r => r.1.getD i ([], [])
def rowSt (nd : NetD) (rows : List RowD) (x0 : List Int) : Nat → List PairD × List Int
  | 0 => ([], x0)
  | i + 1 => ((rowSt nd rows x0 i).1 ++ [pairOf nd.p (nd.lay.getD i []) (rowSt nd rows x0 i).2], nextOf nd.p (nd.lay.getD i []) (prsAt rows i) (rowSt nd rows x0 i).2)
def startX (nd : NetD) (rows : List RowD) (l : Nat) : List Int := vplus nd.p (nd.emb.getD l []) (nd.sh.map fun n => (rows.length : Int) * n)
def lastSt (nd : NetD) (rows : List RowD) (l : Nat) : List PairD × List Int := rowSt nd rows (startX nd rows l) nd.lay.length
def rowD (nd : NetD) (rows : List RowD) (l : Nat) : RowD := ((lastSt nd rows l).1, nd.out.map fun v => 1 + dot v (lastSt nd rows l).2 % nd.p)
def rowsD (nd : NetD) : List Nat → List RowD → List RowD
  | [], acc => acc
  | l :: r, acc => rowsD nd r (acc ++ [rowD nd acc l])

/-- numbers from 0 to p - 1 -/
def Sml (p : Int) (ns : List Int) : Prop := ∀ x ∈ ns, 0 ≤ x ∧ x < p
/-- so small that products are reckoned -/
def Bd (ns : List Int) : Prop := ∀ x ∈ ns, -(2 ^ 64) < x ∧ x < 2 ^ 64
theorem Sml.bd {p : Int} {ns : List Int} (hp : p ≤ 97) (h : Sml p ns) : Bd ns := fun x hx => by have := h x hx; omega
def MatOk (p : Int) (w : Nat) (M : Mat) : Prop := ∀ r ∈ M, r.length = w ∧ Sml p r
structure NetOk (nd : NetD) (w : Nat) : Prop where
  p2 : 2 ≤ nd.p
  p97 : nd.p ≤ 97
  w4 : w ≤ 4
  emb : MatOk nd.p w nd.emb
  sh : nd.sh.length = w ∧ Sml nd.p nd.sh
  lay : ∀ L ∈ nd.lay, L.length = 5 ∧ ∀ M ∈ L, M.length = w ∧ MatOk nd.p w M
  out : MatOk nd.p w nd.out
  e12 : nd.emb.length ≤ 12
  o12 : nd.out.length ≤ 12
  l3 : nd.lay.length ≤ 3
def PairOk (p : Int) (w : Nat) (q : PairD) : Prop := (q.1.length = w ∧ Sml p q.1) ∧ q.2.length = w ∧ Sml p q.2
def RowOk (nd : NetD) (w : Nat) (r : RowD) : Prop := r.1.length = nd.lay.length ∧ (∀ q ∈ r.1, PairOk nd.p w q) ∧ r.2.length = nd.out.length
theorem vtimes_len (p : Int) (M : Mat) (v : List Int) : (vtimes p M v).length = M.length := List.length_map ..
theorem vplus_len {p : Int} {u v : List Int} (h : u.length = v.length) : (vplus p u v).length = u.length := by
  unfold vplus; rw [List.length_zipWith, h, Nat.min_self]
theorem vtimes_sml {p : Int} (hp : 0 < p) (M : Mat) (v : List Int) : Sml p (vtimes p M v) := fun x hx => by
  obtain ⟨r, _, e⟩ := List.mem_map.mp hx
  subst e
  exact ⟨Int.emod_nonneg _ (by omega), Int.emod_lt_of_pos _ hp⟩
theorem vplus_sml {p : Int} (hp : 0 < p) : ∀ (u v : List Int), Sml p (vplus p u v)
  | [], _ => fun x hx => by simp [vplus] at hx
  | _ :: _, [] => fun x hx => by simp [vplus] at hx
  | a :: u, b :: v => fun x hx => by
    have hx : x ∈ ((a + b) % p) :: vplus p u v := hx
    rcases List.mem_cons.mp hx with e | e
    · subst e; exact ⟨Int.emod_nonneg _ (by omega), Int.emod_lt_of_pos _ hp⟩
    · exact vplus_sml hp u v x e
theorem looked_len {p : Int} {q : List Int} : ∀ {prs : List PairD} {f : List Int}, (∀ kv ∈ prs, kv.2.length = f.length) → (looked p q prs f).length = f.length
  | [], f, _ => rfl
  | kv :: r, f, h => by
    have h1 := h kv (List.mem_cons_self ..)
    have e : (vplus p f (kv.2.map fun n => dot q kv.1 * n)).length = f.length := vplus_len (by rw [List.length_map, h1])
    show (looked p q r (vplus p f (kv.2.map fun n => dot q kv.1 * n))).length = f.length
    rw [looked_len (fun kv' hk => by rw [e]; exact h kv' (List.mem_cons_of_mem _ hk)), e]
theorem zeros_len (q : List Int) : (zeros q).length = q.length := List.length_map ..
theorem nth_zip {f : Int → Int → Int} {u v : List Int} {i : Nat} (h1 : i < u.length) (h2 : i < v.length) : nth (List.zipWith f u v) (i : Nat) = f (nth u (i : Nat)) (nth v (i : Nat)) := by
  simp only [nth_nat, List.getD_eq_getElem?_getD, List.getElem?_zipWith, List.getElem?_eq_getElem h1, List.getElem?_eq_getElem h2, Option.getD_some]
theorem nth_map {f : Int → Int} {u : List Int} {i : Nat} (h1 : i < u.length) : nth (u.map f) (i : Nat) = f (nth u (i : Nat)) := by
  simp only [nth_nat, List.getD_eq_getElem?_getD, List.getElem?_map, List.getElem?_eq_getElem h1, Option.map_some, Option.getD_some]
theorem nth_mapG {α : Type} {f : α → Int} {u : List α} {i : Nat} {x : α} (h1 : u[i]? = some x) : nth (u.map f) (i : Nat) = f x := by
  simp only [nth_nat, List.getD_eq_getElem?_getD, List.getElem?_map, h1, Option.map_some, Option.getD_some]
theorem nth_range {f : Nat → Int} {n i : Nat} (h1 : i < n) : nth ((List.range n).map f) (i : Nat) = f i := by
  simp only [nth_nat, List.getD_eq_getElem?_getD, List.getElem?_map, List.getElem?_range h1, Option.map_some, Option.getD_some]
theorem nth_ext {u v : List Int} (hl : u.length = v.length) (h : ∀ i : Nat, i < u.length → nth u (i : Nat) = nth v (i : Nat)) : u = v := by
  refine List.ext_getElem hl fun i h1 h2 => ?_
  have := h i h1
  simpa only [nth_nat, List.getD_eq_getElem?_getD, List.getElem?_eq_getElem h1, List.getElem?_eq_getElem h2, Option.getD_some] using this
theorem pairOf_ok {p : Int} {w : Nat} {L : List Mat} {x : List Int} (hp : 0 < p) (hL : L.length = 5 ∧ ∀ M ∈ L, M.length = w ∧ MatOk p w M) : PairOk p w (pairOf p L x) := by
  have hm : ∀ i : Nat, i < 5 → (mt L i).length = w := fun i hi => by
    unfold mt
    rw [List.getD_eq_getElem?_getD, List.getElem?_eq_getElem (by omega)]
    exact (hL.2 _ (List.getElem_mem _)).1
  exact ⟨⟨by show (vtimes p (mt L 1) x).length = w; rw [vtimes_len]; exact hm 1 (by omega), vtimes_sml hp _ _⟩, by show (vtimes p (mt L 2) x).length = w; rw [vtimes_len]; exact hm 2 (by omega), vtimes_sml hp _ _⟩
theorem mt_ok {p : Int} {w : Nat} {L : List Mat} (hL : L.length = 5 ∧ ∀ M ∈ L, M.length = w ∧ MatOk p w M) {i : Nat} (hi : i < 5) : L[i]? = some (mt L i) ∧ (mt L i).length = w ∧ MatOk p w (mt L i) := by
  have e : L[i]? = some (mt L i) := by
    unfold mt
    rw [List.getD_eq_getElem?_getD, List.getElem?_eq_getElem (by omega)]
    rfl
  exact ⟨e, hL.2 _ (List.mem_of_getElem? e)⟩
theorem midOf_len {p : Int} {w : Nat} {L : List Mat} {prs : List PairD} {x : List Int} (hp : 0 < p) (hL : L.length = 5 ∧ ∀ M ∈ L, M.length = w ∧ MatOk p w M) (hprs : ∀ q ∈ prs, PairOk p w q) (hx : x.length = w) : (midOf p L prs x).length = w := by
  have h0 := (mt_ok hL (i := 0) (by omega)).2.1
  have hq : (looked p (vtimes p (mt L 0) x) (prs ++ [pairOf p L x]) (zeros (vtimes p (mt L 0) x))).length = w := by
    rw [looked_len, zeros_len, vtimes_len, h0]
    intro kv hk
    rw [zeros_len, vtimes_len, h0]
    rcases List.mem_append.mp hk with h | h
    · exact (hprs kv h).2.1
    · rw [List.mem_singleton.mp h]; exact (pairOf_ok hp hL).2.1
  unfold midOf
  rw [vplus_len (by rw [hx, hq]), hx]
theorem nextOf_len {p : Int} {w : Nat} {L : List Mat} {prs : List PairD} {x : List Int} (hp : 0 < p) (hL : L.length = 5 ∧ ∀ M ∈ L, M.length = w ∧ MatOk p w M) (hprs : ∀ q ∈ prs, PairOk p w q) (hx : x.length = w) : (nextOf p L prs x).length = w := by
  have hm := midOf_len hp hL hprs hx
  unfold nextOf
  rw [vplus_len (by rw [hm, vtimes_len, (mt_ok hL (i := 4) (by omega)).2.1]), hm]
theorem nextOf_sml {p : Int} {L : List Mat} {prs : List PairD} {x : List Int} (hp : 0 < p) : Sml p (nextOf p L prs x) := vplus_sml hp _ _
theorem prsAt_ok {nd : NetD} {w : Nat} {rows : List RowD} (hr : ∀ r ∈ rows, RowOk nd w r) {i : Nat} (hi : i < nd.lay.length) : ∀ q ∈ prsAt rows i, PairOk nd.p w q := fun q hq => by
  obtain ⟨r, hr1, e⟩ := List.mem_map.mp hq
  obtain ⟨h1, h2, _⟩ := hr r hr1
  rw [List.getD_eq_getElem?_getD, List.getElem?_eq_getElem (by omega)] at e
  subst e
  exact h2 _ (List.getElem_mem _)
theorem rowSt_ok {nd : NetD} {w : Nat} (ok : NetOk nd w) {rows : List RowD} (hr : ∀ r ∈ rows, RowOk nd w r) {x0 : List Int} (h0 : x0.length = w ∧ Sml nd.p x0) : ∀ i, i ≤ nd.lay.length →
    (rowSt nd rows x0 i).1.length = i ∧ (∀ q ∈ (rowSt nd rows x0 i).1, PairOk nd.p w q) ∧ (rowSt nd rows x0 i).2.length = w ∧ Sml nd.p (rowSt nd rows x0 i).2
  | 0, _ => ⟨rfl, List.forall_mem_nil _, h0.1, h0.2⟩
  | i + 1, hi => by
    obtain ⟨h1, h2, h3, h4⟩ := rowSt_ok ok hr h0 i (by omega)
    have hp : 0 < nd.p := by have := ok.p2; omega
    have hL := ok.lay (nd.lay.getD i []) (by
      rw [List.getD_eq_getElem?_getD, List.getElem?_eq_getElem (by omega)]
      exact List.getElem_mem _)
    refine ⟨by show (_ ++ [_]).length = _; rw [List.length_append, h1]; rfl, fun q hq => ?_, nextOf_len hp hL (prsAt_ok hr (by omega)) h3, nextOf_sml hp⟩
    rcases List.mem_append.mp hq with h | h
    · exact h2 q h
    · rw [List.mem_singleton.mp h]; exact pairOf_ok hp hL
theorem startX_ok {nd : NetD} {w : Nat} (ok : NetOk nd w) {rows : List RowD} {l : Nat} (hl : l < nd.emb.length) : (startX nd rows l).length = w ∧ Sml nd.p (startX nd rows l) := by
  have he : (nd.emb.getD l []).length = w := by
    rw [List.getD_eq_getElem?_getD, List.getElem?_eq_getElem hl]
    exact (ok.emb _ (List.getElem_mem _)).1
  refine ⟨?_, vplus_sml (by have := ok.p2; omega) _ _⟩
  unfold startX
  rw [vplus_len (by rw [he, List.length_map, ok.sh.1]), he]
theorem rowD_ok {nd : NetD} {w : Nat} (ok : NetOk nd w) {rows : List RowD} (hr : ∀ r ∈ rows, RowOk nd w r) {l : Nat} (hl : l < nd.emb.length) : RowOk nd w (rowD nd rows l) := by
  obtain ⟨h1, h2, _, _⟩ := rowSt_ok ok hr (startX_ok ok (rows := rows) hl) nd.lay.length (Nat.le_refl _)
  exact ⟨h1, h2, List.length_map ..⟩

/-! ### the same, as the law reckons it -/
def ldot (p : Int) (a b : List Int) : Int := ((List.range a.length).map fun k => nth a (k : Nat) * nth b (k : Nat)).sum % p
theorem dot_range {a b : List Int} (h : a.length = b.length) : ((List.range a.length).map fun k => nth a ((k : Nat) : Int) * nth b ((k : Nat) : Int)) = List.zipWith (· * ·) a b := by
  refine nth_ext (by rw [List.length_map, List.length_range, List.length_zipWith, h, Nat.min_self]) fun i hi => ?_
  rw [List.length_map, List.length_range] at hi
  rw [nth_range hi, nth_zip hi (by omega)]
theorem ldot_eq {p : Int} {a b : List Int} (h : a.length = b.length) : ldot p a b = dot a b % p := by
  unfold ldot dot
  rw [dot_range h]
def lstep (p : Int) (asked : List Int) (x : List Int) (o : PairD) : List Int := (List.range x.length).map fun k => (nth x (k : Nat) + ldot p asked o.1 * nth o.2 (k : Nat)) % p
theorem lstep_eq {p : Int} {asked x f : List Int} {o : PairD} (hx : x.length = f.length) (ho : o.2.length = f.length) (ha : asked.length = o.1.length) : lstep p asked (vplus p x f) o = vplus p x (vplus p f (o.2.map fun n => dot asked o.1 * n)) := by
  have h1 : (vplus p x f).length = f.length := by rw [vplus_len hx, hx]
  have h2 : (vplus p f (o.2.map fun n => dot asked o.1 * n)).length = f.length := vplus_len (by rw [List.length_map, ho])
  refine nth_ext (by unfold lstep; rw [List.length_map, List.length_range, h1, vplus_len (by rw [h2, hx]), hx]) fun i hi => ?_
  unfold lstep at hi ⊢
  rw [List.length_map, List.length_range, h1] at hi
  rw [nth_range (by rw [h1]; exact hi), ldot_eq ha]
  unfold vplus at h2 ⊢
  rw [nth_zip (by omega) hi, nth_zip (by omega) (by omega), nth_zip hi (by rw [List.length_map]; omega), nth_map (by omega)]
  generalize nth x (i : Nat) = a
  generalize nth f (i : Nat) = b
  generalize nth o.2 (i : Nat) = c
  generalize dot asked o.1 = d
  rw [Int.emod_add_emod, Int.add_emod_emod, ← Int.add_assoc, Int.add_emod (a + b) (d % p * c), Int.add_emod (a + b) (d * c), show d % p * c % p = d * c % p by rw [Int.mul_emod (d % p) c, Int.emod_emod, ← Int.mul_emod]]
theorem latt_eq {p : Int} {asked x : List Int} : ∀ {prs : List PairD} {f : List Int}, x.length = f.length → (∀ o ∈ prs, o.2.length = f.length ∧ asked.length = o.1.length) → prs.foldl (lstep p asked) (vplus p x f) = vplus p x (looked p asked prs f)
  | [], f, _, _ => rfl
  | o :: r, f, hx, h => by
    obtain ⟨h1, h2⟩ := h o (List.mem_cons_self ..)
    have e : (vplus p f (o.2.map fun n => dot asked o.1 * n)).length = f.length := vplus_len (by rw [List.length_map, h1])
    show r.foldl (lstep p asked) (lstep p asked (vplus p x f) o) = vplus p x (looked p asked r (vplus p f (o.2.map fun n => dot asked o.1 * n)))
    rw [lstep_eq hx h1 h2]
    exact latt_eq (by rw [e]; exact hx) fun o' ho => by rw [e]; exact h o' (List.mem_cons_of_mem _ ho)
theorem vplus_zero {p : Int} {x z : List Int} (hx : Sml p x) (hz : z.length = x.length) (h0 : ∀ i : Nat, i < z.length → nth z (i : Nat) = 0) : vplus p x z = x := by
  refine nth_ext (vplus_len hz.symm) fun i hi => ?_
  rw [vplus_len hz.symm] at hi
  unfold vplus
  rw [nth_zip hi (by omega), h0 i (by omega), Int.add_zero]
  have := hx _ (nth_mem (ns := x) (i := ((i : Nat) : Int)) (by omega) (by omega))
  exact Int.emod_eq_of_lt this.1 this.2
theorem mid_law {p : Int} {w : Nat} {L : List Mat} {prs : List PairD} {x : List Int} (hp : 0 < p) (hL : L.length = 5 ∧ ∀ M ∈ L, M.length = w ∧ MatOk p w M) (hprs : ∀ q ∈ prs, PairOk p w q) (hx : x.length = w ∧ Sml p x) :
    (prs ++ [pairOf p L x]).foldl (lstep p (vtimes p (mt L 0) x)) x = midOf p L prs x := by
  have h0 := (mt_ok hL (i := 0) (by omega)).2.1
  have hz : (zeros (vtimes p (mt L 0) x)).length = x.length := by rw [zeros_len, vtimes_len, h0, hx.1]
  have e0 : vplus p x (zeros (vtimes p (mt L 0) x)) = x := vplus_zero hx.2 hz fun i hi => by
    unfold zeros at hi ⊢
    rw [nth_map (by rw [List.length_map] at hi; exact hi)]
  have key := latt_eq (p := p) (asked := vtimes p (mt L 0) x) (x := x) (prs := prs ++ [pairOf p L x]) (f := zeros (vtimes p (mt L 0) x)) hz.symm fun o ho => by
    rw [hz, hx.1, vtimes_len, h0]
    rcases List.mem_append.mp ho with h | h
    · exact ⟨(hprs o h).2.1, (hprs o h).1.1.symm⟩
    · rw [List.mem_singleton.mp h]; exact ⟨(pairOf_ok hp hL).2.1, (pairOf_ok hp hL).1.1.symm⟩
  rw [e0] at key
  exact key
theorem vplus_range {p : Int} {u v : List Int} (h : u.length = v.length) : ((List.range u.length).map fun k => (nth u ((k : Nat) : Int) + nth v ((k : Nat) : Int)) % p) = vplus p u v := by
  refine nth_ext (by rw [List.length_map, List.length_range, vplus_len h]) fun i hi => ?_
  rw [List.length_map, List.length_range] at hi
  rw [nth_range hi]
  unfold vplus
  rw [nth_zip hi (by omega)]

/-! ### one step of a reading; the closers -/
local macro_rules | `(tactic| walk_at "same") => `(tactic| first
  | assumption
  | exact Same.refl _
  | (refine Same.trans ?_ (Same.new (by assumption)); walk_at "same")
  | (refine Same.mut ?_ (by assumption); walk_at "same")
  | (refine Same.trans (H1 := _) ?_ (by assumption); walk_at "same"))
local macro_rules | `(tactic| walk_at "at") => `(tactic| first
  | assumption
  | exact upd_same
  | (refine Same.at ?_ (by assumption); walk_at "same"))
local macro_rules | `(tactic| walk_at "sq") => `(tactic| first
  | assumption
  | exact Sq.lst (by walk_at "at")
  | exact Sq.tup (by walk_at "at")
  | (refine Same.sq ?_ (by assumption); walk_at "same"))
local macro_rules | `(tactic| walk_at "lk") => `(tactic| first
  | exact lk_here
  | (refine lk_next (by decide +kernel) ?_; walk_at "lk")
  | exact rfl)
local macro_rules | `(tactic| walk_at "pf") => `(tactic| first
  | exact pf_here
  | (apply pf_next (by decide +kernel); walk_at "pf")
  | exact pf_nil)
local macro_rules | `(tactic| walk_at "num") => `(tactic| first
  | omega
  | assumption
  | (unfold CMul; omega)
  | (unfold CDiv; omega)
  | (unfold CPow; refine ⟨?_, ?_, ?_⟩ <;> first | omega | decide)
  | decide
  | (simp only [List.length_append, List.length_cons, List.length_nil, List.length_map, List.length_range] at *; omega))
local macro_rules | `(tactic| walk_at "vv") => `(tactic| first
  | exact tape_cells
  | exact tape_at
  | exact tape_great
  | exact tape_left
  | exact tape_seed
  | exact tape_turn
  | exact val_pos
  | (refine (val_neg (by decide +kernel)).trans ?_; walk_at "vv"))
local macro_rules | `(tactic| walk_at "pp") => `(tactic| first
  | exact tape_setAt
  | exact tape_setGreat
  | exact tape_setLeft
  | exact tape_setSeed
  | exact tape_setTurn)
local macro_rules | `(tactic| walk_at "dl") => `(tactic| first
  | exact tape_len
  | (show _ < 1000; simp only [List.length_cons, List.length_nil]; omega))
local macro_rules | `(tactic| walk_at "go1") => `(tactic| first
  | with_reducible refine w_var rfl ?_
  | with_reducible refine w_seq ?_
  | with_reducible refine w_asg ?_
  | with_reducible refine w_gName ?_
  | with_reducible refine w_c ?_
  | with_reducible refine w_op ?_
  | with_reducible refine w_I0 ?_
  | with_reducible refine w_addI ?_
  | with_reducible refine w_cb ?_
  | with_reducible refine w_aCons ?_
  | with_reducible refine w_aNil ?_
  | with_reducible refine w_int1 ?_
  | with_reducible refine w_int1b ?_
  | ((with_reducible refine w_I ?_ ?_); (· walk_at "num"))
  | with_reducible refine w_test ?_
  | with_reducible refine w_exb ?_
  | with_reducible refine w_exi ?_
  | with_reducible refine w_ifS ?_
  | with_reducible refine w_tru ?_
  | with_reducible refine w_truB ?_
  | with_reducible refine w_eqI ?_
  | with_reducible refine w_neI ?_
  | with_reducible refine iteT ?_
  | with_reducible refine iteF ?_
  | with_reducible refine w_not ?_
  | with_reducible refine w_and ?_
  | with_reducible refine w_or ?_
  | with_reducible refine w_iteNT ?_
  | with_reducible refine w_iteNF ?_
  | with_reducible refine w_rt ?_
  | with_reducible refine w_ret ?_
  | with_reducible refine w_retN ?_
  | with_reducible refine w_next ?_
  | with_reducible refine w_drop ?_
  | with_reducible refine w_augI rfl ?_
  | with_reducible refine w_ipI ?_
  | with_reducible refine w_un ?_
  | with_reducible refine w_rU ?_
  | with_reducible refine w_abs ?_
  | with_reducible refine w_max2 ?_
  | with_reducible refine w_min2 ?_
  | with_reducible refine w_call ?_
  | with_reducible refine w_tB ?_
  | with_reducible refine w_bm ?_
  | ((with_reducible show tyV _ "list" (V.ref _) _ ∧ _); refine w_tyL (by walk_at "sq") ?_)
  | ((with_reducible show rIx _ (V.ref _) (V.int _) _ _); refine w_ixI (by walk_at "sq") (by walk_at "num") (by walk_at "num") ?_)
  | ((with_reducible show rSumS _ [V.ref _] _ _); refine w_sumI (by walk_at "sq") ?_)
  | ((with_reducible show rLenS _ [V.ref _] _ _); refine w_lenI (by walk_at "sq") ?_)
  | ((with_reducible show rLenS _ [V.ref _] _ _); refine w_lenS (by walk_at "sq") ?_)
  | with_reducible refine w_isNn ?_
  | with_reducible refine w_isNi ?_
  | with_reducible refine w_isNb ?_
  | with_reducible refine w_isNs ?_
  | with_reducible refine w_isNr ?_
  | with_reducible refine w_notNn ?_
  | with_reducible refine w_notNi ?_
  | with_reducible refine w_notNb ?_
  | with_reducible refine w_notNs ?_
  | with_reducible refine w_notNr ?_
  | with_reducible refine w_lstD ?_
  | with_reducible refine w_tupD ?_
  | with_reducible refine w_sl ?_
  | with_reducible refine w_noPart ?_
  | with_reducible refine w_part ?_
  | with_reducible refine w_for ?_
  | with_reducible refine w_iRng1 ?_
  | with_reducible refine w_iRng2 ?_
  | with_reducible refine w_iSeq ?_
  | with_reducible refine w_iEnumS ?_
  | with_reducible refine w_andV ?_
  | with_reducible refine w_orV ?_
  | with_reducible refine w_notV ?_
  | with_reducible refine w_ifE ?_
  | with_reducible refine w_brk ?_
  | with_reducible refine w_cont ?_
  | with_reducible refine w_gSub ?_
  | with_reducible refine w_lc ?_
  | with_reducible refine w_iZipS ?_
  | with_reducible refine w_fld ?_
  | ((with_reducible show ∃ a C dx fs v, V.ref _ = V.ref a ∧ _ ∧ Cls _ _ ∧ NoAttr _ _ _ ∧ _ ∧ _); refine w_fldAt (by walk_at "at") (by assumption) (by assumption) (by walk_at "lk") ?_)
  | with_reducible refine w_sfld ?_
  | ((with_reducible show ∃ a C dx fs, V.ref _ = V.ref a ∧ _ ∧ Cls _ _ ∧ NoAttr _ _ _ ∧ _ ∧ _); refine w_sfldAt (by walk_at "at") (by assumption) (by assumption) (by show _ < 1000; simp only [List.length_cons, List.length_nil]; omega) (by walk_at "pf") ?_)
  | with_reducible refine w_meth ?_
  | ((with_reducible show ∃ a dx fs, V.ref _ = V.ref a ∧ _ ∧ _ ∧ _); refine w_methAt (by walk_at "at") (by walk_at "lk") ?_)
  | with_reducible refine w_make ?_
  | with_reducible refine w_chain ?_
  | with_reducible refine w_dget ?_
  | ((with_reducible show ∃ a v, V.ref _ = V.ref a ∧ DGet _ a (V.str _) (some v) ∧ _); refine w_dgetAt (by walk_at "at") (by walk_at "vv") ?_)
  | ((with_reducible show ∃ a H4, V.ref _ = V.ref a ∧ DPut _ a (V.str _) _ H4 ∧ _); refine w_dputAt (by walk_at "at") (by walk_at "dl") (by walk_at "pp") ?_)
  | with_reducible refine w_dput ?_
  | with_reducible refine w_disp ?_
  | with_reducible refine w_prop ?_
  | ((with_reducible show ∃ a dx fs, V.ref _ = V.ref a ∧ _ ∧ _); refine w_propAt (by walk_at "at") ?_)
  | with_reducible refine w_lstRg ?_
  | with_reducible refine w_tupRg ?_
  | with_reducible refine w_rg1 ?_
  | with_reducible refine w_rg2 ?_
  | with_reducible refine w_augS ?_
  | ((with_reducible show rGetL (V.ref _) (V.int _) _ _); refine w_getI (by walk_at "at") (by walk_at "num") (by walk_at "num") ?_)
  | with_reducible refine w_pair0 ?_
  | with_reducible refine w_pair1 ?_
  | with_reducible refine w_bk ?_
  | with_reducible refine w_ct ?_
  | with_reducible refine w_nx ?_)
local macro_rules | `(tactic| walk_at "go") => `(tactic| repeat walk_at "go1")
/-! new objects named by themselves -/
local macro_rules | `(tactic| walk_at "same2") => `(tactic| first
  | with_reducible assumption
  | exact Same.refl _
  | (refine Same.trans (H1 := _) ?_ (by with_reducible assumption); walk_at "same2"))
local macro_rules | `(tactic| walk_at "at2") => `(tactic| first
  | with_reducible assumption
  | (refine Same.at ?_ (by with_reducible assumption); walk_at "same2"))
local macro_rules | `(tactic| walk_at "sq2") => `(tactic| first
  | with_reducible assumption
  | exact Sq.lst (by walk_at "at2")
  | exact Sq.tup (by walk_at "at2")
  | (refine Same.sq ?_ (by with_reducible assumption); walk_at "same2"))
local macro_rules | `(tactic| walk_at "ati") => `(tactic| first
  | exact atI_nat (j := 0) rfl
  | exact atI_nat (j := 1) rfl
  | exact atI_nat (j := 2) rfl
  | exact atI_nat (j := 3) rfl
  | exact atI_nat (j := 4) rfl)
local macro_rules | `(tactic| walk_at "nw1") => `(tactic| first
  | with_reducible refine w_tupN ?_
  | with_reducible refine w_lstN ?_
  | ((with_reducible show NewO _ _ _ _); refine w_new (by first | exact Nat.zero_le _ | (simp only [List.length_cons, List.length_nil]; omega)) ?_; intro p H' hp s e)
  | with_reducible refine w_methT ?_
  | with_reducible refine w_makeT ?_
  | with_reducible refine w_callS ?_
  | ((with_reducible show rIx _ (V.ref _) (V.int _) _ _); refine w_ixI (by walk_at "sq2") (by walk_at "num") (by walk_at "num") ?_)
  | ((with_reducible show rIx _ (V.ref _) (V.int _) _ _); refine w_ix (by walk_at "sq2") (by walk_at "ati") ?_)
  | ((with_reducible show rListS _ [V.ref _] _ _); refine w_listN (by walk_at "sq2") ?_; intro p H' hp s e)
  | ((with_reducible show rTupS _ [V.ref _] _ _); refine w_tupNL (by walk_at "sq2") ?_; intro p H' hp s e)
  | ((with_reducible show rTupS _ [V.ref _] _ _); refine w_tupT (by walk_at "sq2") ?_)
  | with_reducible refine w_neBB ?_
  | with_reducible refine w_neSS ?_
  | with_reducible refine w_eqSS ?_
  | ((with_reducible show rEqG _ (V.str _) (V.str _) _ _); refine w_eqSD (by decide +kernel) ?_)
  | ((with_reducible show rNeG _ (V.str _) (V.str _) _ _); refine w_neSD (by decide +kernel) ?_)
  | with_reducible refine w_augF ?_
  | ((with_reducible show ∃ a C dx fs v, V.ref _ = V.ref a ∧ _ ∧ Cls _ _ ∧ NoAttr _ _ _ ∧ _ ∧ _); refine w_augFAt (by walk_at "at") (by assumption) (by assumption) (by walk_at "lk") ?_)
  | with_reducible refine w_rAdd ?_
  | ((with_reducible show ∃ dx' fs', _ ∧ List.length fs' < 1000 ∧ _); refine w_augFEnd (by walk_at "at") (by show _ < 1000; simp only [List.length_cons, List.length_nil]; omega) (by walk_at "pf") ?_)
  | walk_at "go1")
local macro_rules | `(tactic| walk_at "GO") => `(tactic| repeat walk_at "nw1")

def topS (i : Nat) : Stmt := PySem.Challenge.pw_servedalone_k69_rows_in_a_batch.main.body.getD i (.Pass ⟨0, 0, 0, 0⟩)
abbrev s_InvalidNumber___init__ : Stmt := inClass (topS 2) 0
abbrev s_InvalidLetter___init__ : Stmt := inClass (topS 3) 0
abbrev s_is_between : Stmt := topS 6
abbrev s_vector_of : Stmt := topS 7
abbrev s_matrix_of : Stmt := topS 8
abbrev s_product_sum : Stmt := topS 9
abbrev s_Net___init__ : Stmt := inClass (topS 10) 0
abbrev s_Net_letters : Stmt := inClass (topS 10) 1
abbrev s_Net_is_letter : Stmt := inClass (topS 10) 2
abbrev s_Net_rest : Stmt := inClass (topS 10) 3
abbrev s_Net_times : Stmt := inClass (topS 10) 4
abbrev s_Net_plus : Stmt := inClass (topS 10) 5
abbrev s_Net_looked_at : Stmt := inClass (topS 10) 6
abbrev s_Net_row : Stmt := inClass (topS 10) 7
abbrev s_Job___init__ : Stmt := inClass (topS 12) 0
abbrev s_Job_go_through : Stmt := inClass (topS 12) 1
abbrev s_Job_rows : Stmt := inClass (topS 12) 2
abbrev s_rows_in_batch : Stmt := topS 13
abbrev s_L_pool : Stmt := topS 15
abbrev s_L_draw : Stmt := topS 16
abbrev s_L_same : Stmt := topS 17
abbrev s_L_vectors : Stmt := topS 18
abbrev s_L_net : Stmt := topS 19
abbrev s_L_times : Stmt := topS 20
abbrev s_L_row : Stmt := topS 21
abbrev s_L_behind : Stmt := topS 22
abbrev s_L_as_net : Stmt := topS 23
abbrev s_L_as : Stmt := topS 24
abbrev s_L_refused : Stmt := topS 25
abbrev s_law : Stmt := topS 26
theorem sc_InvalidNumber___init__ : FnScope ["self", "number"] ["self", "number"] (defScope s_InvalidNumber___init__) := ⟨rfl, rfl, rfl, by decide +kernel, rfl, by decide +kernel, by decide +kernel⟩
theorem sc_InvalidLetter___init__ : FnScope ["self", "letter"] ["self", "letter"] (defScope s_InvalidLetter___init__) := ⟨rfl, rfl, rfl, by decide +kernel, rfl, by decide +kernel, by decide +kernel⟩
theorem sc_is_between : FnScope ["value", "least", "most"] ["value", "least", "most"] (defScope s_is_between) := ⟨rfl, rfl, rfl, by decide +kernel, rfl, by decide +kernel, by decide +kernel⟩
theorem sc_vector_of : FnScope ["numbers"] ["numbers"] (defScope s_vector_of) := ⟨rfl, rfl, rfl, by decide +kernel, rfl, by decide +kernel, by decide +kernel⟩
theorem sc_matrix_of : FnScope ["rows", "row"] ["rows"] (defScope s_matrix_of) := ⟨rfl, rfl, rfl, by decide +kernel, rfl, by decide +kernel, by decide +kernel⟩
theorem sc_product_sum : FnScope ["one", "two", "total", "number", "other"] ["one", "two"] (defScope s_product_sum) := ⟨rfl, rfl, rfl, by decide +kernel, rfl, by decide +kernel, by decide +kernel⟩
theorem sc_Net___init__ : FnScope ["self", "prime", "embed", "shift", "layers", "out", "end", "layer", "matrix"] ["self", "prime", "embed", "shift", "layers", "out", "end"] (defScope s_Net___init__) := ⟨rfl, rfl, rfl, by decide +kernel, rfl, by decide +kernel, by decide +kernel⟩
theorem sc_Net_letters : FnScope ["self"] ["self"] (defScope s_Net_letters) := ⟨rfl, rfl, rfl, by decide +kernel, rfl, by decide +kernel, by decide +kernel⟩
theorem sc_Net_is_letter : FnScope ["self", "value"] ["self", "value"] (defScope s_Net_is_letter) := ⟨rfl, rfl, rfl, by decide +kernel, rfl, by decide +kernel, by decide +kernel⟩
theorem sc_Net_rest : FnScope ["self", "number"] ["self", "number"] (defScope s_Net_rest) := ⟨rfl, rfl, rfl, by decide +kernel, rfl, by decide +kernel, by decide +kernel⟩
theorem sc_Net_times : FnScope ["self", "matrix", "vector", "row"] ["self", "matrix", "vector"] (defScope s_Net_times) := ⟨rfl, rfl, rfl, by decide +kernel, rfl, by decide +kernel, by decide +kernel⟩
theorem sc_Net_plus : FnScope ["self", "one", "two", "number", "other"] ["self", "one", "two"] (defScope s_Net_plus) := ⟨rfl, rfl, rfl, by decide +kernel, rfl, by decide +kernel, by decide +kernel⟩
theorem sc_Net_looked_at : FnScope ["self", "query", "pairs", "found", "key", "value", "part", "_", "number"] ["self", "query", "pairs"] (defScope s_Net_looked_at) := ⟨rfl, rfl, rfl, by decide +kernel, rfl, by decide +kernel, by decide +kernel⟩
theorem sc_Net_row : FnScope ["self", "rows", "letter", "x", "own", "layer", "query", "key", "value", "first", "second", "pair", "pairs", "weights", "vector", "number", "row"] ["self", "rows", "letter"] (defScope s_Net_row) := ⟨rfl, rfl, rfl, by decide +kernel, rfl, by decide +kernel, by decide +kernel⟩
theorem sc_Job___init__ : FnScope ["self", "net", "rows", "letters", "at", "letter", "place", "_", "number"] ["self", "net", "rows", "letters"] (defScope s_Job___init__) := ⟨rfl, rfl, rfl, by decide +kernel, rfl, by decide +kernel, by decide +kernel⟩
theorem sc_Job_go_through : FnScope ["self", "net", "number", "query", "key", "value", "first", "second", "vector", "fresh", "known", "moved", "at", "seen", "squares", "row", "pair", "one"] ["self", "net", "number"] (defScope s_Job_go_through) := ⟨rfl, rfl, rfl, by decide +kernel, rfl, by decide +kernel, by decide +kernel⟩
theorem sc_Job_rows : FnScope ["self", "net", "found", "pairs", "vector", "weights", "other"] ["self", "net"] (defScope s_Job_rows) := ⟨rfl, rfl, rfl, by decide +kernel, rfl, by decide +kernel, by decide +kernel⟩
theorem sc_rows_in_batch : FnScope ["net", "jobs", "_", "letters", "letter", "work", "number", "job", "rows"] ["net", "jobs"] (defScope s_rows_in_batch) := ⟨rfl, rfl, rfl, by decide +kernel, rfl, by decide +kernel, by decide +kernel⟩
theorem sc_L_pool : FnScope ["_law_script", "_law_many", "_law_pool_here", "_law_total", "_law_cell", "_law_rest", "_law_k", "_law_first", "_law_second"] ["_law_script", "_law_many"] (defScope s_L_pool) := ⟨rfl, rfl, rfl, by decide +kernel, rfl, by decide +kernel, by decide +kernel⟩
theorem sc_L_draw : FnScope ["_law_pool_here", "_law_many"] ["_law_pool_here", "_law_many"] (defScope s_L_draw) := ⟨rfl, rfl, rfl, by decide +kernel, rfl, by decide +kernel, by decide +kernel⟩
theorem sc_L_same : FnScope ["_law_told", "_law_due", "_law_k"] ["_law_told", "_law_due"] (defScope s_L_same) := ⟨rfl, rfl, rfl, by decide +kernel, rfl, by decide +kernel, by decide +kernel⟩
theorem sc_L_vectors : FnScope ["_law_pool_here", "_law_prime", "_law_many", "_law_width", "_law_j", "_law_k"] ["_law_pool_here", "_law_prime", "_law_many", "_law_width"] (defScope s_L_vectors) := ⟨rfl, rfl, rfl, by decide +kernel, rfl, by decide +kernel, by decide +kernel⟩
theorem sc_L_net : FnScope ["_law_pool_here", "_law_prime", "_law_letters", "_law_width", "_law_layers", "_law_k", "_law_embed", "_law_shift", "_law_out", "_law_end", "_law_j"] ["_law_pool_here"] (defScope s_L_net) := ⟨rfl, rfl, rfl, by decide +kernel, rfl, by decide +kernel, by decide +kernel⟩
theorem sc_L_times : FnScope ["_law_matrix", "_law_x", "_law_prime", "_law_row_here", "_law_k"] ["_law_matrix", "_law_x", "_law_prime"] (defScope s_L_times) := ⟨rfl, rfl, rfl, by decide +kernel, rfl, by decide +kernel, by decide +kernel⟩
theorem sc_L_row : FnScope ["_law_net_here", "_law_rows", "_law_letter", "_law_prime", "_law_places", "_law_x", "_law_pairs", "_law_j", "_law_layer", "_law_asked", "_law_pair", "_law_near", "_law_squares", "_law_more", "_law_k", "_law_y", "_law_row_here", "_law_weight"] ["_law_net_here", "_law_rows", "_law_letter"] (defScope s_L_row) := ⟨rfl, rfl, rfl, by decide +kernel, rfl, by decide +kernel, by decide +kernel⟩
theorem sc_L_behind : FnScope ["_law_net_here", "_law_known", "_law_letters", "_law_rows", "_law_k"] ["_law_net_here", "_law_known", "_law_letters"] (defScope s_L_behind) := ⟨rfl, rfl, rfl, by decide +kernel, rfl, by decide +kernel, by decide +kernel⟩
theorem sc_L_as_net : FnScope ["_law_net_here"] ["_law_net_here"] (defScope s_L_as_net) := ⟨rfl, rfl, rfl, by decide +kernel, rfl, by decide +kernel, by decide +kernel⟩
theorem sc_L_as : FnScope ["_law_pool_here", "_law_row_here"] ["_law_pool_here", "_law_row_here"] (defScope s_L_as) := ⟨rfl, rfl, rfl, by decide +kernel, rfl, by decide +kernel, by decide +kernel⟩
theorem sc_L_refused : FnScope ["_law_pool_here", "_law_helper", "_law_net_here", "_law_jobs", "_law_many", "_law_odd", "_law_at", "_law_letters", "_law_place", "_law_wrong", "_law_rows", "e"] ["_law_pool_here", "_law_helper", "_law_net_here", "_law_jobs"] (defScope s_L_refused) := ⟨rfl, rfl, rfl, by decide +kernel, rfl, by decide +kernel, by decide +kernel⟩
theorem sc_law : FnScope ["_law_script", "_law_pool_here", "_law_net_here", "_law_helper", "_law_many", "_law_known", "_law_jobs", "_law_due", "_law_k", "_law_j", "_law_before", "_law_letters", "_law_rows", "_law_kept", "_law_handed", "_law_letter", "_law_job"] ["_law_script"] (defScope s_law) := ⟨rfl, rfl, rfl, by decide +kernel, rfl, by decide +kernel, by decide +kernel⟩

structure Txt (K : PySem.W.Frag) (mg : Str → Option Value) : Type where
  z_abs : mg "abs" = none
  z_bool : mg "bool" = none
  z_enumerate : mg "enumerate" = none
  z_int : mg "int" = none
  z_isinstance : mg "isinstance" = none
  z_len : mg "len" = none
  z_list : mg "list" = none
  z_min : mg "min" = none
  z_range : mg "range" = none
  z_str : mg "str" = none
  z_sum : mg "sum" = none
  z_tuple : mg "tuple" = none
  z_zip : mg "zip" = none
  c_Net : Addr
  C_Net : Cls K c_Net
  gc_Net : mg "Net" = some (.ref c_Net)
  n_Net_prime : NoAttr K c_Net "prime"
  n_Net_embed : NoAttr K c_Net "embed"
  n_Net_shift : NoAttr K c_Net "shift"
  n_Net_layers : NoAttr K c_Net "layers"
  n_Net_out : NoAttr K c_Net "out"
  n_Net_end : NoAttr K c_Net "end"
  c_Job : Addr
  C_Job : Cls K c_Job
  gc_Job : mg "Job" = some (.ref c_Job)
  n_Job_ahead : NoAttr K c_Job "ahead"
  n_Job_vectors : NoAttr K c_Job "vectors"
  n_Job_pairs : NoAttr K c_Job "pairs"
  c_InvalidLetter : Addr
  gc_InvalidLetter : mg "InvalidLetter" = some (.ref c_InvalidLetter)
  er_InvalidLetter : ErrN K c_InvalidLetter
  k_PRIMES : Addr
  gk_PRIMES : mg "PRIMES" = some (.ref k_PRIMES)
  tk_PRIMES : ∀ H : Hp, SqT K H k_PRIMES ([.int 2, .int 3, .int 5, .int 7, .int 11, .int 13, .int 17, .int 19, .int 23, .int 29, .int 31, .int 37, .int 41, .int 43, .int 47, .int 53, .int 59, .int 61, .int 67, .int 71, .int 73, .int 79, .int 83, .int 89, .int 97] : List V)
  a_InvalidLetter___init__ : Addr
  d_InvalidLetter___init__ : FuncData
  F_InvalidLetter___init__ : Fun K "__init__" "InvalidLetter.__init__" s_InvalidLetter___init__ a_InvalidLetter___init__ d_InvalidLetter___init__
  b_InvalidLetter___init__ : Binds K d_InvalidLetter___init__ ["self", "letter"] []
  a_is_between : Addr
  d_is_between : FuncData
  F_is_between : Fun K "is_between" "is_between" s_is_between a_is_between d_is_between
  g_is_between : mg "is_between" = some (.ref a_is_between)
  b_is_between : Binds K d_is_between ["value", "least", "most"] []
  a_vector_of : Addr
  d_vector_of : FuncData
  F_vector_of : Fun K "vector_of" "vector_of" s_vector_of a_vector_of d_vector_of
  g_vector_of : mg "vector_of" = some (.ref a_vector_of)
  b_vector_of : Binds K d_vector_of ["numbers"] []
  a_matrix_of : Addr
  d_matrix_of : FuncData
  F_matrix_of : Fun K "matrix_of" "matrix_of" s_matrix_of a_matrix_of d_matrix_of
  g_matrix_of : mg "matrix_of" = some (.ref a_matrix_of)
  b_matrix_of : Binds K d_matrix_of ["rows"] []
  a_product_sum : Addr
  d_product_sum : FuncData
  F_product_sum : Fun K "product_sum" "product_sum" s_product_sum a_product_sum d_product_sum
  g_product_sum : mg "product_sum" = some (.ref a_product_sum)
  b_product_sum : Binds K d_product_sum ["one", "two"] []
  a_Net___init__ : Addr
  d_Net___init__ : FuncData
  F_Net___init__ : Fun K "__init__" "Net.__init__" s_Net___init__ a_Net___init__ d_Net___init__
  b_Net___init__ : Binds K d_Net___init__ ["self", "prime", "embed", "shift", "layers", "out", "end"] []
  M_Net : Mk K c_Net a_Net___init__
  a_Net_is_letter : Addr
  d_Net_is_letter : FuncData
  F_Net_is_letter : Fun K "is_letter" "Net.is_letter" s_Net_is_letter a_Net_is_letter d_Net_is_letter
  b_Net_is_letter : Binds K d_Net_is_letter ["self", "value"] []
  m_Net_is_letter : Meth K c_Net "is_letter" a_Net_is_letter
  a_Net_rest : Addr
  d_Net_rest : FuncData
  F_Net_rest : Fun K "rest" "Net.rest" s_Net_rest a_Net_rest d_Net_rest
  b_Net_rest : Binds K d_Net_rest ["self", "number"] []
  m_Net_rest : Meth K c_Net "rest" a_Net_rest
  a_Net_times : Addr
  d_Net_times : FuncData
  F_Net_times : Fun K "times" "Net.times" s_Net_times a_Net_times d_Net_times
  b_Net_times : Binds K d_Net_times ["self", "matrix", "vector"] []
  m_Net_times : Meth K c_Net "times" a_Net_times
  a_Net_plus : Addr
  d_Net_plus : FuncData
  F_Net_plus : Fun K "plus" "Net.plus" s_Net_plus a_Net_plus d_Net_plus
  b_Net_plus : Binds K d_Net_plus ["self", "one", "two"] []
  m_Net_plus : Meth K c_Net "plus" a_Net_plus
  a_Net_looked_at : Addr
  d_Net_looked_at : FuncData
  F_Net_looked_at : Fun K "looked_at" "Net.looked_at" s_Net_looked_at a_Net_looked_at d_Net_looked_at
  b_Net_looked_at : Binds K d_Net_looked_at ["self", "query", "pairs"] []
  m_Net_looked_at : Meth K c_Net "looked_at" a_Net_looked_at
  a_Net_row : Addr
  d_Net_row : FuncData
  F_Net_row : Fun K "row" "Net.row" s_Net_row a_Net_row d_Net_row
  b_Net_row : Binds K d_Net_row ["self", "rows", "letter"] []
  m_Net_row : Meth K c_Net "row" a_Net_row
  a_Job___init__ : Addr
  d_Job___init__ : FuncData
  F_Job___init__ : Fun K "__init__" "Job.__init__" s_Job___init__ a_Job___init__ d_Job___init__
  b_Job___init__ : Binds K d_Job___init__ ["self", "net", "rows", "letters"] []
  M_Job : Mk K c_Job a_Job___init__
  a_Job_go_through : Addr
  d_Job_go_through : FuncData
  F_Job_go_through : Fun K "go_through" "Job.go_through" s_Job_go_through a_Job_go_through d_Job_go_through
  b_Job_go_through : Binds K d_Job_go_through ["self", "net", "number"] []
  m_Job_go_through : Meth K c_Job "go_through" a_Job_go_through
  a_Job_rows : Addr
  d_Job_rows : FuncData
  F_Job_rows : Fun K "rows" "Job.rows" s_Job_rows a_Job_rows d_Job_rows
  b_Job_rows : Binds K d_Job_rows ["self", "net"] []
  m_Job_rows : Meth K c_Job "rows" a_Job_rows
  a_rows_in_batch : Addr
  d_rows_in_batch : FuncData
  F_rows_in_batch : Fun K "rows_in_batch" "rows_in_batch" s_rows_in_batch a_rows_in_batch d_rows_in_batch
  g_rows_in_batch : mg "rows_in_batch" = some (.ref a_rows_in_batch)
  b_rows_in_batch : Binds K d_rows_in_batch ["net", "jobs"] []
  a_L_pool : Addr
  d_L_pool : FuncData
  F_L_pool : Fun K "_law_pool" "_law_pool" s_L_pool a_L_pool d_L_pool
  g_L_pool : mg "_law_pool" = some (.ref a_L_pool)
  b_L_pool : Binds K d_L_pool ["_law_script", "_law_many"] []
  a_L_draw : Addr
  d_L_draw : FuncData
  F_L_draw : Fun K "_law_draw" "_law_draw" s_L_draw a_L_draw d_L_draw
  g_L_draw : mg "_law_draw" = some (.ref a_L_draw)
  b_L_draw : Binds K d_L_draw ["_law_pool_here", "_law_many"] []
  a_L_same : Addr
  d_L_same : FuncData
  F_L_same : Fun K "_law_same" "_law_same" s_L_same a_L_same d_L_same
  g_L_same : mg "_law_same" = some (.ref a_L_same)
  b_L_same : Binds K d_L_same ["_law_told", "_law_due"] []
  a_L_vectors : Addr
  d_L_vectors : FuncData
  F_L_vectors : Fun K "_law_vectors" "_law_vectors" s_L_vectors a_L_vectors d_L_vectors
  g_L_vectors : mg "_law_vectors" = some (.ref a_L_vectors)
  b_L_vectors : Binds K d_L_vectors ["_law_pool_here", "_law_prime", "_law_many", "_law_width"] []
  a_L_net : Addr
  d_L_net : FuncData
  F_L_net : Fun K "_law_net" "_law_net" s_L_net a_L_net d_L_net
  g_L_net : mg "_law_net" = some (.ref a_L_net)
  b_L_net : Binds K d_L_net ["_law_pool_here"] []
  a_L_times : Addr
  d_L_times : FuncData
  F_L_times : Fun K "_law_times" "_law_times" s_L_times a_L_times d_L_times
  g_L_times : mg "_law_times" = some (.ref a_L_times)
  b_L_times : Binds K d_L_times ["_law_matrix", "_law_x", "_law_prime"] []
  a_L_row : Addr
  d_L_row : FuncData
  F_L_row : Fun K "_law_row" "_law_row" s_L_row a_L_row d_L_row
  g_L_row : mg "_law_row" = some (.ref a_L_row)
  b_L_row : Binds K d_L_row ["_law_net_here", "_law_rows", "_law_letter"] []
  a_L_behind : Addr
  d_L_behind : FuncData
  F_L_behind : Fun K "_law_behind" "_law_behind" s_L_behind a_L_behind d_L_behind
  g_L_behind : mg "_law_behind" = some (.ref a_L_behind)
  b_L_behind : Binds K d_L_behind ["_law_net_here", "_law_known", "_law_letters"] []
  a_L_as_net : Addr
  d_L_as_net : FuncData
  F_L_as_net : Fun K "_law_as_net" "_law_as_net" s_L_as_net a_L_as_net d_L_as_net
  g_L_as_net : mg "_law_as_net" = some (.ref a_L_as_net)
  b_L_as_net : Binds K d_L_as_net ["_law_net_here"] []
  a_L_as : Addr
  d_L_as : FuncData
  F_L_as : Fun K "_law_as" "_law_as" s_L_as a_L_as d_L_as
  g_L_as : mg "_law_as" = some (.ref a_L_as)
  b_L_as : Binds K d_L_as ["_law_pool_here", "_law_row_here"] []
  a_L_refused : Addr
  d_L_refused : FuncData
  F_L_refused : Fun K "_law_refused" "_law_refused" s_L_refused a_L_refused d_L_refused
  g_L_refused : mg "_law_refused" = some (.ref a_L_refused)
  b_L_refused : Binds K d_L_refused ["_law_pool_here", "_law_helper", "_law_net_here", "_law_jobs"] []
  a_law : Addr
  d_law : FuncData
  F_law : Fun K "law" "law" s_law a_law d_law
  g_law : mg "law" = some (.ref a_law)
  b_law : Binds K d_law ["_law_script"] []
  ox_InvalidLetter : OexC K c_InvalidLetter
  ic_InvalidLetter : PySem.W.findIn K (.ref c_InvalidLetter) "__init__" = some (some (.ref a_InvalidLetter___init__))
  ti_InvalidLetter : PySem.W.typeIn K (.ref a_InvalidLetter___init__) = some (.type "function")
  nf_InvalidLetter : PySem.W.findIn K (.ref c_InvalidLetter) "letter" = some none
  xf_InvalidLetter : XfC K c_InvalidLetter
  ec_InvalidLetter : ExcC K c_InvalidLetter
  sv_InvalidLetter : PySem.W.subIn K (.ref c_InvalidLetter) (.type "ValueError") = some true
  sub_InvalidLetter_InvalidLetter : PySem.W.subIn K (.ref c_InvalidLetter) (.ref c_InvalidLetter) = some true

section
variable {P : Program} {w : World} {K : PySem.W.Frag} {mg : Str → Option Value} {base : Heap}
theorem ok_InvalidLetter___init__ (T : Txt K mg) : FnOk P w K mg base CX0 1 T.a_InvalidLetter___init__ T.d_InvalidLetter___init__ ["self", "letter"] (spErr K "letter") := by
  refine T.F_InvalidLetter___init__.ok sc_InvalidLetter___init__ (fun vs H Q E h => ?_) (fun cdv A outer s H vs Q E hr h => ?_)
  · obtain ⟨_, _, _, rfl, _⟩ := h
    rfl
  · obtain ⟨a, C, v, rfl, h0, T1, n1, k⟩ := h
    refine ⟨_, (pss_one (ps_ost (pv 0) (pv 1) rfl)), ?_⟩
    refine go_start (σ' := [some (.ref a), some v]) rfl ?_
    exact ⟨v, rfl, .ref a, rfl, a, C, rfl, T1, n1, .inl ⟨h0, fun dx hdx hne => k dx hdx hne⟩⟩

/-! ### nets over the heap -/
abbrev RMat (K : PySem.W.Frag) : Rep Mat := RSeq false K (RVec false K)
abbrev RPr (K : PySem.W.Frag) : Rep PairD := RPair K (RVec false K) (RVec false K)
abbrev RRow (K : PySem.W.Frag) : Rep RowD := RPair K (RSeq false K (RPr K)) (RVec false K)
theorem RMat.mono {K : PySem.W.Frag} : RMono (RMat K) := RSeq.mono RVec.mono
theorem RMat.tup {K : PySem.W.Frag} : RTup (RMat K) := RSeq.tup RVec.tup
theorem RPr.mono {K : PySem.W.Frag} : RMono (RPr K) := RPair.mono RVec.mono RVec.mono
theorem RPr.tup {K : PySem.W.Frag} : RTup (RPr K) := RPair.tup RVec.tup RVec.tup
theorem RRow.mono {K : PySem.W.Frag} : RMono (RRow K) := RPair.mono (RSeq.mono RPr.mono) RVec.mono
theorem RRow.tup {K : PySem.W.Frag} : RTup (RRow K) := RPair.tup (RSeq.tup RPr.tup) RVec.tup
/-- numbers in a list or a tuple; rows of such -/
def RVecX (K : PySem.W.Frag) : Rep (List Int) := fun H v ns => ∃ b, RVec b K H v ns
theorem RVecX.mono {K : PySem.W.Frag} : RMono (RVecX K) := fun _ _ _ _ s ⟨b, h⟩ => ⟨b, RVec.mono _ _ _ _ s h⟩
def RMatX (K : PySem.W.Frag) : Rep Mat := fun H v M => ∃ b, RSeq b K (RVecX K) H v M
theorem RMatX.mono {K : PySem.W.Frag} : RMono (RMatX K) := fun _ _ _ _ s ⟨b, h⟩ => ⟨b, RSeq.mono RVecX.mono _ _ _ _ s h⟩
def RLayX (K : PySem.W.Frag) : Rep (List (List Mat)) := fun H v Ls => ∃ b, RSeq b K (fun H v L => ∃ b', RSeq b' K (RMatX K) H v L) H v Ls
theorem RLayX.mono {K : PySem.W.Frag} : RMono (RLayX K) := fun _ _ _ _ s ⟨b, h⟩ => ⟨b, RSeq.mono (fun _ _ _ _ s ⟨b', h'⟩ => ⟨b', RSeq.mono RMatX.mono _ _ _ _ s h'⟩) _ _ _ _ s h⟩
theorem RMat.x {K : PySem.W.Frag} {H : Hp} {v : V} {M : Mat} (h : RMat K H v M) : RMatX K H v M := by
  obtain ⟨a, vs, e, h1, h2, h3⟩ := h
  exact ⟨false, a, vs, e, h1, h2, fun i y x e1 e2 => ⟨false, h3 i y x e1 e2⟩⟩
/-- a net's object -/
def netF (nd : NetD) (v1 v2 v3 v4 v5 : V) : List (Str × V) := [("prime", .int nd.p), ("embed", v1), ("shift", v2), ("layers", v3), ("out", v4), ("end", v5)]
def IsNet (K : PySem.W.Frag) (C : Addr) (H : Hp) (p : Addr) (nd : NetD) (e : V) : Prop := ∃ dx v1 v2 v3 v4, H p = some (.ins C dx (netF nd v1 v2 v3 v4 e)) ∧ RMat K H v1 nd.emb ∧ RVec false K H v2 nd.sh ∧ RSeq false K (RSeq false K (RMat K)) H v3 nd.lay ∧ RMat K H v4 nd.out
theorem IsNet.mono {K : PySem.W.Frag} {C : Addr} {H H' : Hp} {p : Addr} {nd : NetD} {e : V} (s : Same H H') (h : IsNet K C H p nd e) : IsNet K C H' p nd e := by
  obtain ⟨dx, v1, v2, v3, v4, h0, h1, h2, h3, h4⟩ := h
  exact ⟨dx, v1, v2, v3, v4, s _ _ h0, RMat.mono _ _ _ _ s h1, RVec.mono _ _ _ _ s h2, RSeq.mono (RSeq.mono RMat.mono) _ _ _ _ s h3, RMat.mono _ _ _ _ s h4⟩
theorem line_of {n : Nat} (h : n ≤ 1000000) : n < sizeLine := by rw [sizeLine_eq]; omega

/-! ### is_between -/
def sp_is_between (K : PySem.W.Frag) : Sp := fun vs H Q _ => ∃ (x : V) (a b : Int) (r : Bool), vs = [x, .int a, .int b] ∧
  ((∃ v, x = .int v ∧ r = decide (a ≤ v ∧ v ≤ b)) ∨ (r = false ∧ ∃ tn, TyX K H x (.type tn) ∧ (tn = "bool" ∨ tn = "NoneType" ∨ tn = "str" ∨ tn = "tuple" ∨ tn = "list"))) ∧ Q (.bl r) H
theorem ok_is_between (T : Txt K mg) : FnOk P w K mg base CX0 1 T.a_is_between T.d_is_between ["value", "least", "most"] (sp_is_between K) := by
  refine T.F_is_between.ok sc_is_between (fun vs H Q E h => ?_) (fun cdv A outer s H vs Q E hr h => ?_)
  · obtain ⟨_, _, _, _, rfl, _⟩ := h
    rfl
  · obtain ⟨x, a, b, r, rfl, hx, k⟩ := h
    refine ⟨_, (pss_one (ps_ret (pe_and (pe_callB (k_isi (K := K) rfl) (by rfl) T.z_isinstance (by decide +kernel) (pa_cons (pv 0) (pa_cons (pe_bltn (v := .ty "int") (by rfl) T.z_int (by decide +kernel) rfl) pa_nil))) (pe_and (pe_not (pe_callB (k_isi (K := K) rfl) (by rfl) T.z_isinstance (by decide +kernel) (pa_cons (pv 0) (pa_cons (pe_bltn (v := .ty "bool") (by rfl) T.z_bool (by decide +kernel) rfl) pa_nil)))) (pe_one (pe_chain op_le op_le (pv 1) (pv 0) (pv 2))))))), ?_⟩
    refine go_start (σ' := [some x, some (.int a), some (.int b)]) rfl ?_
    try dsimp only [cxOf, Cx.nox, Cx.wish]
    rcases hx with ⟨v, rfl, rfl⟩ | ⟨rfl, tn, ht, h5⟩
    · walk_at "go"
      refine w_isi (tn := "int") (b := true) (.base (.int _)) (by decide +kernel) ?_
      walk_at "go"
      refine w_isi (tn := "int") (b := false) (.base (.int _)) (by decide +kernel) ?_
      walk_at "go"
      refine w_iteD (fun h1 => ?_) (fun h1 => ?_)
      · walk_at "go"
        rw [show decide (v ≤ b) = decide (a ≤ v ∧ v ≤ b) by simp [h1]]
        exact k
      · walk_at "go"
        rw [show false = decide (a ≤ v ∧ v ≤ b) by simp [h1]]
        exact k
    · walk_at "go"
      rcases h5 with rfl | h5
      · refine w_isi (tn := "bool") (b := true) ht (by decide +kernel) ?_
        walk_at "go"
        refine w_isi (tn := "bool") (b := true) ht (by decide +kernel) ?_
        walk_at "go"
        exact k
      · have e : kitB tn "int" = some false := by rcases h5 with rfl | rfl | rfl | rfl <;> decide +kernel
        refine w_isi (tn := tn) (b := false) ht e ?_
        walk_at "go"
        exact k

/-! ### vectors and matrices -/
def sp_vector_of (K : PySem.W.Frag) : Sp := fun vs H Q _ => ∃ (v : V) (ns : List Int), vs = [v] ∧ RVecX K H v ns ∧ ∀ v' H', Same H H' → RVec false K H' v' ns → Q v' H'
theorem ok_vector_of (T : Txt K mg) : FnOk P w K mg base CX0 1 T.a_vector_of T.d_vector_of ["numbers"] (sp_vector_of K) := by
  refine T.F_vector_of.ok sc_vector_of (fun vs H Q E h => ?_) (fun cdv A outer s H vs Q E hr h => ?_)
  · obtain ⟨_, _, rfl, _⟩ := h
    rfl
  · obtain ⟨v, ns, rfl, ⟨b, a, rfl, hS⟩, k⟩ := h
    refine ⟨_, (pss_one (ps_ret (pe_callTy (k_tupS (K := K) rfl) (by rfl) T.z_tuple (by decide +kernel) (pa_cons (pv 0) pa_nil)))), ?_⟩
    refine go_start (σ' := [some (.ref a)]) rfl ?_
    try dsimp only [cxOf, Cx.nox, Cx.wish]
    walk_at "go"
    cases b with
    | true =>
      refine w_tupL hS fun l hl => ?_
      walk_at "go"
      exact k _ _ (Same.new hl) ⟨l, rfl, Sq.tup upd_same⟩
    | false =>
      refine w_tupT hS ?_
      walk_at "go"
      exact k _ _ (Same.refl _) ⟨a, rfl, hS⟩
def sp_matrix_of (K : PySem.W.Frag) : Sp := fun vs H Q _ => ∃ (v : V) (M : Mat), vs = [v] ∧ RMatX K H v M ∧ M.length ≤ 100000 ∧ ∀ v' H', Same H H' → RMat K H' v' M → Q v' H'
theorem ok_matrix_of (T : Txt K mg) : FnOk P w K mg base CX0 2 T.a_matrix_of T.d_matrix_of ["rows"] (sp_matrix_of K) := by
  refine T.F_matrix_of.ok sc_matrix_of (fun vs H Q E h => ?_) (fun cdv A outer s H vs Q E hr h => ?_)
  · obtain ⟨_, _, rfl, _⟩ := h
    rfl
  · obtain ⟨v, M, rfl, ⟨b, a, xs, rfl, hS, hl, hr2⟩, hz, k⟩ := h
    refine ⟨_, (pss_one (ps_ret (pe_callTy (k_tupS (K := K) rfl) (by rfl) T.z_tuple (by decide +kernel) (pa_cons (pe_lc (own := [("row", 1)]) (g := gName 1) (tt := tYes) rfl sc_matrix_of.nd (k_seqS (K := K) rfl (pv 0)) (blkOk_by (own := [("row", 1)]) (by kernel_rfl)) (fun _ _ _ _ _ => (pg_name (i := 1) sc_matrix_of.nd rfl (by first | exact Or.inl rfl | exact Or.inr rfl))) (fun _ _ _ _ _ => pts_nil) (fun _ _ _ _ _ => (pe_call (ok_vector_of T) (hr.mono (by decide)) (by rfl) T.g_vector_of T.F_vector_of.kp T.b_vector_of .nil pass0 (pa_cons (pv 1) pa_nil)))) pa_nil)))), ?_⟩
    refine go_start (σ' := [some (.ref a), none]) rfl ?_
    try dsimp only [cxOf, Cx.nox, Cx.wish]
    walk_at "go"
    refine c_rep (R := RVec false K) RVec.mono RVec.tup xs hS M (by omega) (line_of (by omega)) (fun _ => rfl) (fun i x d H1 N hi hx hd sm hN => ?_) (fun D H' ys hD sm e hly hry => ?_)
    · walk_at "go"
      exact ⟨x, d, rfl, RVecX.mono _ _ _ _ sm (hr2 i x d hx hd), fun v' H4 s4 r4 => hN v' H4 s4 r4⟩
    · walk_at "go"
      refine w_tupL (Sq.lst e) fun l hl2 => ?_
      walk_at "go"
      exact k _ _ (sm.trans (Same.new hl2)) ⟨l, ys, rfl, Sq.tup upd_same, hly, fun i y x h1 h2 => RVec.mono _ _ _ _ (Same.new hl2) (hry i y x h1 h2)⟩
def sp_product_sum (K : PySem.W.Frag) : Sp := fun vs H Q _ => ∃ (v1 v2 : V) (us ws : List Int), vs = [v1, v2] ∧ RVecX K H v1 us ∧ RVecX K H v2 ws ∧ us.length = ws.length ∧ Bd us ∧ ∀ H', Same H H' → Q (.int (dot us ws)) H'
theorem ok_product_sum (T : Txt K mg) : FnOk P w K mg base CX0 1 T.a_product_sum T.d_product_sum ["one", "two"] (sp_product_sum K) := by
  refine T.F_product_sum.ok sc_product_sum (fun vs H Q E h => ?_) (fun cdv A outer s H vs Q E hr h => ?_)
  · obtain ⟨_, _, _, _, rfl, _⟩ := h
    rfl
  · obtain ⟨v1, v2, us, ws, rfl, ⟨b1, a1, rfl, h1⟩, ⟨b2, a2, rfl, h2⟩, hl, hB, k⟩ := h
    refine ⟨_, (pss_cons (ps_set (i := 2) sc_product_sum.nd rfl (Or.inl rfl) pe_int)
      (pss_cons (ps_for PassesOwn.never rfl (k_zipS (K := K) rfl (by rfl) T.z_zip (pa_cons (pv 0) (pa_cons (pv 1) pa_nil))) (k_tup (K := K) rfl rfl (pgs_cons (pg_name (i := 3) sc_product_sum.nd rfl (Or.inl rfl)) (pgs_cons (pg_name (i := 4) sc_product_sum.nd rfl (Or.inl rfl)) pgs_nil)))
      (pss_one (ps_aug (i := 2) sc_product_sum.nd rfl (Or.inl rfl) (pe_op op_mul (pv 3) (pv 4)) ip_add)))
      (pss_one (ps_ret (pv 2))))), ?_⟩
    refine go_start (σ' := [some (.ref a1), some (.ref a2), none, none, none]) rfl ?_
    try dsimp only [cxOf, Cx.nox, Cx.wish]
    walk_at "go"
    refine l_zip (b1 := b1) (b2 := b2) (us.map V.int) (ws.map V.int) (by rw [List.length_map, List.length_map, hl]) (fun i σ H' => ∃ y3 y4, σ = [some (.ref a1), some (.ref a2), some (.int (pre (List.zipWith (· * ·) us ws) i)), y3, y4] ∧ Same H H')
      h1 h2 ⟨none, none, by rw [pre_zero]; rfl, Same.refl _⟩ (fun i σ H' _ ⟨_, _, _, sm⟩ => ⟨sm.sq h1, sm.sq h2⟩) ?_ ?_
    · rintro i x y T' σ H' hi hx hy ⟨y3, y4, rfl, sm⟩ hT
      obtain ⟨rfl, hi1⟩ := vec_at hx
      obtain ⟨rfl, hi2⟩ := vec_at hy
      refine w_pair (Sq.tup upd_same) ?_
      have hb := hB _ (nth_mem (ns := us) (i := ((i : Nat) : Int)) (by omega) (by omega))
      walk_at "go"
      have e := pre_succ (ns := List.zipWith (· * ·) us ws) (j := i) (by rw [List.length_zipWith]; omega)
      rw [nth_zip hi1 hi2] at e
      exact ⟨_, _, by rw [e]; rfl, sm.trans (Same.new hT)⟩
    · rintro σ H' ⟨y3, y4, rfl, sm⟩
      walk_at "go"
      rw [show (us.map V.int).length = (List.zipWith (· * ·) us ws).length by rw [List.length_map, List.length_zipWith, hl, Nat.min_self], pre_all]
      exact k _ sm

/-! ### the net's own methods -/
def sp_Net_rest (K : PySem.W.Frag) (C : Addr) : Sp := fun vs H Q _ => ∃ (p : Addr) (nd : NetD) (e : V) (n : Int), vs = [.ref p, .int n] ∧ IsNet K C H p nd e ∧ 0 < nd.p ∧ Q (.int (n % nd.p)) H
theorem ok_Net_rest (T : Txt K mg) : FnOk P w K mg base CX0 1 T.a_Net_rest T.d_Net_rest ["self", "number"] (sp_Net_rest K T.c_Net) := by
  refine T.F_Net_rest.ok sc_Net_rest (fun vs H Q E h => ?_) (fun cdv A outer s H vs Q E hr h => ?_)
  · obtain ⟨_, _, _, _, rfl, _⟩ := h
    rfl
  · obtain ⟨p, nd, e, n, rfl, ⟨dx, v1, v2, v3, v4, h0, _⟩, hp, k⟩ := h
    have cN := T.C_Net
    have n1 := T.n_Net_prime
    unfold netF at h0
    refine ⟨_, (pss_one (ps_ret (pe_op op_mod (pe_callTy cr_int1 (by rfl) T.z_int (by decide +kernel) (pa_cons (pv 1) pa_nil)) (k_fld (K := K) rfl (pv 0) rfl)))), ?_⟩
    refine go_start (σ' := [some (.ref p), some (.int n)]) rfl ?_
    try dsimp only [cxOf, Cx.nox, Cx.wish]
    walk_at "go"
    exact k
def sp_Net_plus (K : PySem.W.Frag) (C : Addr) : Sp := fun vs H Q _ => ∃ (p : Addr) (nd : NetD) (e v1 v2 : V) (us ws : List Int), vs = [.ref p, v1, v2] ∧ IsNet K C H p nd e ∧ 0 < nd.p ∧ RVecX K H v1 us ∧ RVecX K H v2 ws ∧ us.length = ws.length ∧ us.length ≤ 1000 ∧
  ∀ v' H', Same H H' → RVec false K H' v' (vplus nd.p us ws) → Q v' H'
theorem ok_Net_plus (T : Txt K mg) : FnOk P w K mg base CX0 2 T.a_Net_plus T.d_Net_plus ["self", "one", "two"] (sp_Net_plus K T.c_Net) := by
  refine T.F_Net_plus.ok sc_Net_plus (fun vs H Q E h => ?_) (fun cdv A outer s H vs Q E hr h => ?_)
  · obtain ⟨_, _, _, _, _, _, _, rfl, _⟩ := h
    rfl
  · obtain ⟨p, nd, e, v1, v2, us, ws, rfl, hN, hp, ⟨b1, a1, rfl, h1⟩, ⟨b2, a2, rfl, h2⟩, hl, hz, k⟩ := h
    obtain ⟨dx, _, _, _, _, h0, _⟩ := id hN
    unfold netF at h0
    refine ⟨_, (pss_one (ps_ret (pe_callTy (k_tupS (K := K) rfl) (by rfl) T.z_tuple (by decide +kernel) (pa_cons (pe_lc (own := [("number", 3), ("other", 4)]) (g := gTup K 2 (gCons (gName 3) (gCons (gName 4) (gNil)))) (tt := tYes) rfl sc_Net_plus.nd (k_zipS (K := K) rfl (by rfl) T.z_zip (pa_cons (pv 1) (pa_cons (pv 2) pa_nil))) (blkOk_by (own := [("number", 3), ("other", 4)]) (by kernel_rfl)) (fun _ _ _ _ _ => (k_tup (K := K) rfl rfl (pgs_cons (pg_name (i := 3) sc_Net_plus.nd rfl (by first | exact Or.inl rfl | exact Or.inr rfl)) (pgs_cons (pg_name (i := 4) sc_Net_plus.nd rfl (by first | exact Or.inl rfl | exact Or.inr rfl)) pgs_nil)))) (fun _ _ _ _ _ => pts_nil) (fun _ _ _ _ _ => (pe_meth (pv 0) T.C_Net T.m_Net_rest (ok_Net_rest T) (hr.mono (by decide)) T.b_Net_rest .nil pass0 (pa_cons (pe_op (k_addG (K := K) rfl) (pv 3) (pv 4)) pa_nil)))) pa_nil)))), ?_⟩
    refine go_start (σ' := [some (.ref p), some (.ref a1), some (.ref a2), none, none]) rfl ?_
    try dsimp only [cxOf, Cx.nox, Cx.wish]
    walk_at "go"
    refine c_intsZ (us.map V.int) (ws.map V.int) (by rw [List.length_map, List.length_map, hl]) h1 h2 (vplus nd.p us ws) (by rw [vplus_len hl, List.length_map]) (line_of (by rw [List.length_map]; omega)) rfl (fun _ _ => rfl) (fun i x y H1 N hi hx hy sm hN2 => ?_) (fun D H' hD sm e2 => ?_)
    · obtain ⟨rfl, hi1⟩ := vec_at hx
      obtain ⟨rfl, hi2⟩ := vec_at hy
      walk_at "go"
      refine ⟨p, nd, e, _, rfl, hN.mono sm, hp, ?_⟩
      have en : nth (vplus nd.p us ws) ((i : Nat) : Int) = (nth us (i : Nat) + nth ws (i : Nat)) % nd.p := nth_zip hi1 hi2
      rw [← en]
      exact hN2 _ (Same.refl _)
    · walk_at "go"
      refine w_tupL (Sq.lst e2) fun l hl2 => ?_
      walk_at "go"
      exact k _ _ (sm.trans (Same.new hl2)) ⟨l, rfl, Sq.tup upd_same⟩
def sp_Net_times (K : PySem.W.Frag) (C : Addr) : Sp := fun vs H Q _ => ∃ (p : Addr) (nd : NetD) (e v1 v2 : V) (M : Mat) (x : List Int), vs = [.ref p, v1, v2] ∧ IsNet K C H p nd e ∧ 0 < nd.p ∧ RMat K H v1 M ∧ RVecX K H v2 x ∧ (∀ r ∈ M, r.length = x.length ∧ Bd r) ∧ M.length ≤ 1000 ∧
  ∀ v' H', Same H H' → RVec false K H' v' (vtimes nd.p M x) → Q v' H'
theorem ok_Net_times (T : Txt K mg) : FnOk P w K mg base CX0 2 T.a_Net_times T.d_Net_times ["self", "matrix", "vector"] (sp_Net_times K T.c_Net) := by
  refine T.F_Net_times.ok sc_Net_times (fun vs H Q E h => ?_) (fun cdv A outer s H vs Q E hr h => ?_)
  · obtain ⟨_, _, _, _, _, _, _, rfl, _⟩ := h
    rfl
  · obtain ⟨p, nd, e, v1, v2, M, x, rfl, hN, hp, ⟨a1, xs, rfl, h1, hl1, hr1⟩, hx, hM, hz, k⟩ := h
    obtain ⟨dx, _, _, _, _, h0, _⟩ := id hN
    unfold netF at h0
    refine ⟨_, (pss_one (ps_ret (pe_callTy (k_tupS (K := K) rfl) (by rfl) T.z_tuple (by decide +kernel) (pa_cons (pe_lc (own := [("row", 3)]) (g := gName 3) (tt := tYes) rfl sc_Net_times.nd (k_seqS (K := K) rfl (pv 1)) (blkOk_by (own := [("row", 3)]) (by kernel_rfl)) (fun _ _ _ _ _ => (pg_name (i := 3) sc_Net_times.nd rfl (by first | exact Or.inl rfl | exact Or.inr rfl))) (fun _ _ _ _ _ => pts_nil) (fun _ _ _ _ _ => (pe_meth (pv 0) T.C_Net T.m_Net_rest (ok_Net_rest T) (hr.mono (by decide)) T.b_Net_rest .nil pass0 (pa_cons (pe_call (ok_product_sum T) (hr.mono (by decide)) (by rfl) T.g_product_sum T.F_product_sum.kp T.b_product_sum .nil pass0 (pa_cons (pv 3) (pa_cons (pv 2) pa_nil))) pa_nil)))) pa_nil)))), ?_⟩
    refine go_start (σ' := [some (.ref p), some (.ref a1), some v2, none]) rfl ?_
    try dsimp only [cxOf, Cx.nox, Cx.wish]
    walk_at "go"
    refine c_ints xs h1 (vtimes nd.p M x) (by rw [vtimes_len, hl1]) (line_of (by omega)) (fun _ => rfl) (fun i y H1 N hi hy sm hN2 => ?_) (fun D H' hD sm e2 => ?_)
    · have hd : M[i]? = some (M[i]'(by omega)) := List.getElem?_eq_getElem (by omega)
      obtain ⟨hm1, hm2⟩ := hM _ (List.mem_of_getElem? hd)
      walk_at "go"
      refine ⟨_, _, _, x, rfl, ⟨false, RVec.mono _ _ _ _ sm (hr1 i y _ hy hd)⟩, RVecX.mono _ _ _ _ sm hx, hm1, hm2, fun H2 s2 => ?_⟩
      refine ⟨p, nd, e, _, rfl, (hN.mono sm).mono s2, hp, ?_⟩
      rw [← nth_mapG (f := fun r => dot r x % nd.p) hd]
      exact hN2 _ s2
    · walk_at "go"
      refine w_tupL (Sq.lst e2) fun l hl2 => ?_
      walk_at "go"
      exact k _ _ (sm.trans (Same.new hl2)) ⟨l, rfl, Sq.tup upd_same⟩
def sp_Net_looked_at (K : PySem.W.Frag) (C : Addr) : Sp := fun vs H Q _ => ∃ (p : Addr) (nd : NetD) (e v1 v2 : V) (q : List Int) (prs : List PairD) (b : Bool), vs = [.ref p, v1, v2] ∧ IsNet K C H p nd e ∧ 0 < nd.p ∧ RVec false K H v1 q ∧ RSeq b K (RPr K) H v2 prs ∧ Bd q ∧ q.length ≤ 1000 ∧ prs.length ≤ 100000 ∧
  (∀ o ∈ prs, o.1.length = q.length ∧ o.2.length = q.length ∧ Bd o.2) ∧ ∀ v' H', Same H H' → RVec false K H' v' (looked nd.p q prs (zeros q)) → Q v' H'
theorem looked_take {p : Int} {q : List Int} {prs : List PairD} {f : List Int} {i : Nat} {o : PairD} (h : prs[i]? = some o) : looked p q (prs.take (i + 1)) f = vplus p (looked p q (prs.take i) f) (o.2.map fun n => dot q o.1 * n) := by
  unfold looked
  rw [List.take_add_one, h, List.foldl_append]
  rfl
theorem ok_Net_looked_at (T : Txt K mg) : FnOk P w K mg base CX0 3 T.a_Net_looked_at T.d_Net_looked_at ["self", "query", "pairs"] (sp_Net_looked_at K T.c_Net) := by
  refine T.F_Net_looked_at.ok sc_Net_looked_at (fun vs H Q E h => ?_) (fun cdv A outer s H vs Q E hr h => ?_)
  · obtain ⟨_, _, _, _, _, _, _, _, rfl, _⟩ := h
    rfl
  · obtain ⟨p, nd, e, v1, v2, q, prs, b, rfl, hN, hp, ⟨a1, rfl, h1⟩, ⟨a2, ys, rfl, h2, hl2, hr2⟩, hB, hz, hz2, ho, k⟩ := h
    refine ⟨_, (pss_cons (ps_set (i := 3) sc_Net_looked_at.nd rfl (Or.inl rfl) (pe_callTy (k_tupS (K := K) rfl) (by rfl) T.z_tuple (by decide +kernel) (pa_cons (pe_lc (own := [("_", 7)]) (g := gName 7) (tt := tYes) rfl sc_Net_looked_at.nd (k_seqS (K := K) rfl (pv 1)) (blkOk_by (own := [("_", 7)]) (by kernel_rfl)) (fun _ _ _ _ _ => (pg_name (i := 7) sc_Net_looked_at.nd rfl (by first | exact Or.inl rfl | exact Or.inr rfl))) (fun _ _ _ _ _ => pts_nil) (fun _ _ _ _ _ => pe_int)) pa_nil)))
      (pss_cons (ps_for PassesOwn.never rfl (k_seqS (K := K) rfl (pv 2)) (k_tup (K := K) rfl rfl (pgs_cons (pg_name (i := 4) sc_Net_looked_at.nd rfl (Or.inl rfl)) (pgs_cons (pg_name (i := 5) sc_Net_looked_at.nd rfl (Or.inl rfl)) pgs_nil)))
      (pss_cons (ps_set (i := 6) sc_Net_looked_at.nd rfl (Or.inr rfl) (pe_call (ok_product_sum T) (hr.mono (by decide)) (by rfl) T.g_product_sum T.F_product_sum.kp T.b_product_sum .nil pass0 (pa_cons (pv 1) (pa_cons (pv 4) pa_nil))))
      (pss_one (ps_set (i := 3) sc_Net_looked_at.nd rfl (Or.inl rfl) (pe_meth (pv 0) T.C_Net T.m_Net_plus (ok_Net_plus T) (hr.mono (by decide)) T.b_Net_plus .nil pass0 (pa_cons (pv 3) (pa_cons (pe_lc (own := [("number", 8)]) (g := gName 8) (tt := tYes) rfl sc_Net_looked_at.nd (k_seqS (K := K) rfl (pv 5)) (blkOk_by (own := [("number", 8)]) (by kernel_rfl)) (fun _ _ _ _ _ => (pg_name (i := 8) sc_Net_looked_at.nd rfl (by first | exact Or.inl rfl | exact Or.inr rfl))) (fun _ _ _ _ _ => pts_nil) (fun _ _ _ _ _ => (pe_op op_mul (pv 6) (pv 8)))) pa_nil)))))))
      (pss_one (ps_ret (pv 3))))), ?_⟩
    refine go_start (σ' := [some (.ref p), some (.ref a1), some (.ref a2), none, none, none, none, none, none]) rfl ?_
    try dsimp only [cxOf, Cx.nox, Cx.wish]
    walk_at "go"
    refine c_ints (q.map V.int) h1 (zeros q) (by rw [zeros_len, List.length_map]) (line_of (by rw [List.length_map]; omega)) (fun _ => rfl) (fun i y H1 N hi hy sm hN2 => ?_) (fun D H1 hD s1 e2 => ?_)
    · rw [List.length_map] at hi
      walk_at "go"
      have ez : nth (zeros q) ((i : Nat) : Int) = 0 := nth_map hi
      rw [← ez]
      exact hN2 _ (Same.refl _)
    walk_at "go"
    refine w_tupL (Sq.lst e2) fun l hl => ?_
    have s2 : Same H (upd H1 l (.tup ((zeros q).map V.int))) := s1.trans (Same.new hl)
    walk_at "go"
    refine l_seq (b := b) ys (fun i σ H' => ∃ (f : Addr) (y4 y5 y6 y7 y8 : Option V), σ = [some (.ref p), some (.ref a1), some (.ref a2), some (.ref f), y4, y5, y6, y7, y8] ∧ Sq false K H' f ((looked nd.p q (prs.take i) (zeros q)).map V.int) ∧ Same H H')
      (s2.sq h2) ⟨l, none, none, none, none, none, rfl, Sq.tup upd_same, s2⟩ (fun i σ H' _ ⟨_, _, _, _, _, _, _, _, sm⟩ => sm.sq h2) ?_ ?_
    · rintro i y σ H' hi hy ⟨f, y4, y5, y6, y7, y8, rfl, hf, sm⟩
      have hd : prs[i]? = some (prs[i]'(by omega)) := List.getElem?_eq_getElem (by omega)
      generalize prs[i]'(by omega) = o at hd
      obtain ⟨ho1, ho2, ho3⟩ := ho o (List.mem_of_getElem? hd)
      obtain ⟨ap, k1, k2, rfl, hp2, ⟨ak, rfl, hk⟩, ⟨av, rfl, hv⟩⟩ := RPr.mono _ _ _ _ sm (hr2 i y o hy hd)
      refine w_pair hp2 ?_
      walk_at "go"
      refine ⟨_, _, q, o.1, rfl, ⟨false, a1, rfl, sm.sq h1⟩, ⟨false, ak, rfl, hk⟩, ho1.symm, hB, fun H3 s3 => ?_⟩
      walk_at "go"
      obtain ⟨dx, _, _, _, _, h0, _⟩ := id ((hN.mono sm).mono s3)
      unfold netF at h0
      walk_at "go"
      refine c_ints (o.2.map V.int) (s3.sq hv) (o.2.map fun n => dot q o.1 * n) (by rw [List.length_map, List.length_map]) (line_of (by rw [List.length_map]; omega)) (fun _ => rfl) (fun j z H4 N hj hz4 s4 hN2 => ?_) (fun D4 H4 hD4 s4 e4 => ?_)
      · obtain ⟨rfl, hj1⟩ := vec_at hz4
        have hb := ho3 _ (nth_mem (ns := o.2) (i := ((j : Nat) : Int)) (by omega) (by omega))
        walk_at "go"
        rw [← nth_map (f := fun n => dot q o.1 * n) hj1]
        exact hN2 _ (Same.refl _)
      · have hll : (looked nd.p q (prs.take i) (zeros q)).length = q.length := by
          rw [looked_len, zeros_len]
          intro kv hk2
          rw [zeros_len]
          exact (ho kv (List.mem_of_mem_take hk2)).2.1
        walk_at "go"
        refine ⟨p, nd, e, _, _, _, _, rfl, ((hN.mono sm).mono s3).mono s4, hp, ⟨false, f, rfl, s4.sq (s3.sq hf)⟩, ⟨true, D4, rfl, Sq.lst e4⟩, by rw [hll, List.length_map, ho2], by omega, fun v' H5 s5 ⟨f5, e5, hf5⟩ => ?_⟩
        subst e5
        walk_at "go"
        refine ⟨f5, _, _, _, _, _, rfl, ?_, ((sm.trans s3).trans s4).trans s5⟩
        rw [looked_take hd]
        exact hf5
    · rintro σ H' ⟨f, y4, y5, y6, y7, y8, rfl, hf, sm⟩
      walk_at "go"
      refine k _ _ sm ⟨f, rfl, ?_⟩
      rw [show ys.length = prs.length from hl2, List.take_length] at hf
      exact hf
def sp_Net_is_letter (K : PySem.W.Frag) (C : Addr) : Sp := fun vs H Q _ => ∃ (p : Addr) (nd : NetD) (e : V) (l : Int), vs = [.ref p, .int l] ∧ IsNet K C H p nd e ∧ Q (.bl (decide (0 ≤ l ∧ l ≤ (nd.emb.length : Int) - 1))) H
theorem ok_Net_is_letter (T : Txt K mg) : FnOk P w K mg base CX0 2 T.a_Net_is_letter T.d_Net_is_letter ["self", "value"] (sp_Net_is_letter K T.c_Net) := by
  refine T.F_Net_is_letter.ok sc_Net_is_letter (fun vs H Q E h => ?_) (fun cdv A outer s H vs Q E hr h => ?_)
  · obtain ⟨_, _, _, _, rfl, _⟩ := h
    rfl
  · obtain ⟨p, nd, e, l, rfl, ⟨dx, v1, v2, v3, v4, h0, ⟨a1, xs, rfl, h1, hl1, _⟩, _⟩, k⟩ := h
    have cN := T.C_Net
    have n1 := T.n_Net_embed
    unfold netF at h0
    refine ⟨_, (pss_one (ps_ret (pe_call (ok_is_between T) (hr.mono (by decide)) (by rfl) T.g_is_between T.F_is_between.kp T.b_is_between .nil pass0 (pa_cons (pv 1) (pa_cons pe_int (pa_cons (pe_op op_sub (pe_callB (k_lenS (K := K) rfl) (by rfl) T.z_len (by decide +kernel) (pa_cons (k_fld (K := K) rfl (pv 0) rfl) pa_nil)) pe_int) pa_nil)))))), ?_⟩
    refine go_start (σ' := [some (.ref p), some (.int l)]) rfl ?_
    try dsimp only [cxOf, Cx.nox, Cx.wish]
    walk_at "go"
    exact ⟨_, _, _, _, rfl, .inl ⟨l, rfl, rfl⟩, by rw [hl1]; exact k⟩

/-! ### a row -/
theorem five_of {L : List Mat} (h : L.length = 5) : L = [mt L 0, mt L 1, mt L 2, mt L 3, mt L 4] := by
  match L, h with
  | [a, b, c, d, e], _ => rfl
theorem mat_bd {p : Int} {w : Nat} {M : Mat} (hp : p ≤ 97) (h : MatOk p w M) {x : List Int} (hx : x.length = w) : ∀ r ∈ M, r.length = x.length ∧ Bd r := fun r hr => ⟨by rw [(h r hr).1, hx], (h r hr).2.bd hp⟩
def sp_Net_row (K : PySem.W.Frag) (C : Addr) : Sp := fun vs H Q _ => ∃ (p : Addr) (nd : NetD) (e v : V) (b : Bool) (rows : List RowD) (l w : Nat), vs = [.ref p, v, .int (l : Nat)] ∧ IsNet K C H p nd e ∧ NetOk nd w ∧ RSeq b K (RRow K) H v rows ∧ (∀ r ∈ rows, RowOk nd w r) ∧ rows.length ≤ 1000 ∧ l < nd.emb.length ∧
  ∀ v' H', Same H H' → RRow K H' v' (rowD nd rows l) → Q v' H'
theorem ok_Net_row (T : Txt K mg) : FnOk P w K mg base CX0 4 T.a_Net_row T.d_Net_row ["self", "rows", "letter"] (sp_Net_row K T.c_Net) := by
  refine T.F_Net_row.ok sc_Net_row (fun vs H Q E h => ?_) (fun cdv A outer s H vs Q E hr h => ?_)
  · obtain ⟨_, _, _, _, _, _, _, _, rfl, _⟩ := h
    rfl
  · obtain ⟨p, nd, e, v, b, rows, l, wd, rfl, hN, ok, ⟨ar, rvs, rfl, hR, hRl, hRr⟩, hro, hrz, hl, k⟩ := h
    have cN := T.C_Net
    have n1 := T.n_Net_embed
    have n2 := T.n_Net_shift
    have n3 := T.n_Net_layers
    have n4 := T.n_Net_out
    have hp0 : 0 < nd.p := by have := ok.p2; omega
    have w4 := ok.w4
    obtain ⟨dx, v1, v2, v3, v4, h0, hE, ⟨ash, rfl, hSh⟩, hLay, hOut⟩ := id hN
    obtain ⟨ae, evs, rfl, hE1, hEl, hEr⟩ := hE
    obtain ⟨al, lvs, rfl, hL1, hLl, hLr⟩ := hLay
    obtain ⟨ao, ovs, rfl, hO1, hOl, hOr⟩ := hOut
    unfold netF at h0
    refine ⟨_, (pss_cons (ps_if (pt_not (k_tru (K := K) rfl (pe_meth (pv 0) T.C_Net T.m_Net_is_letter (ok_Net_is_letter T) (hr.mono (by decide)) T.b_Net_is_letter .nil pass0 (pa_cons (pv 2) pa_nil)) (by intro _; rfl))) (pss_one ps_never) pss_nil)
      (pss_cons (ps_set (i := 3) sc_Net_row.nd rfl (Or.inr rfl) (pe_meth (pv 0) T.C_Net T.m_Net_plus (ok_Net_plus T) (hr.mono (by decide)) T.b_Net_plus .nil pass0 (pa_cons (pe_ix (k_ix (K := K) rfl) (k_fld (K := K) rfl (pv 0) rfl) (pv 2) (fun _ _ => rfl)) (pa_cons (pe_lc (own := [("number", 15)]) (g := gName 15) (tt := tYes) rfl sc_Net_row.nd (k_seqS (K := K) rfl (k_fld (K := K) rfl (pv 0) rfl)) (blkOk_by (own := [("number", 15)]) (by kernel_rfl)) (fun _ _ _ _ _ => (pg_name (i := 15) sc_Net_row.nd rfl (by first | exact Or.inl rfl | exact Or.inr rfl))) (fun _ _ _ _ _ => pts_nil) (fun _ _ _ _ _ => (pe_op op_mul (pe_callB (k_lenS (K := K) rfl) (by rfl) T.z_len (by decide +kernel) (pa_cons (pv 1) pa_nil)) (pv 15)))) pa_nil))))
      (pss_cons (ps_set (i := 4) sc_Net_row.nd rfl (Or.inl rfl) (pe_lst pa_nil))
      (pss_cons (ps_for PassesOwn.never rfl (k_enumS (K := K) rfl (by rfl) T.z_enumerate (pa_cons (k_fld (K := K) rfl (pv 0) rfl) pa_nil)) (k_tup (K := K) rfl rfl (pgs_cons (pg_name (i := 5) sc_Net_row.nd rfl (Or.inr rfl)) (pgs_cons (k_tup (K := K) rfl rfl (pgs_cons (pg_name (i := 6) sc_Net_row.nd rfl (Or.inl rfl)) (pgs_cons (pg_name (i := 7) sc_Net_row.nd rfl (Or.inl rfl)) (pgs_cons (pg_name (i := 8) sc_Net_row.nd rfl (Or.inl rfl)) (pgs_cons (pg_name (i := 9) sc_Net_row.nd rfl (Or.inl rfl)) (pgs_cons (pg_name (i := 10) sc_Net_row.nd rfl (Or.inl rfl)) pgs_nil)))))) pgs_nil)))
      (pss_cons (ps_set (i := 11) sc_Net_row.nd rfl (Or.inl rfl) (pe_tup (pa_cons (pe_meth (pv 0) T.C_Net T.m_Net_times (ok_Net_times T) (hr.mono (by decide)) T.b_Net_times .nil pass0 (pa_cons (pv 7) (pa_cons (pv 3) pa_nil))) (pa_cons (pe_meth (pv 0) T.C_Net T.m_Net_times (ok_Net_times T) (hr.mono (by decide)) T.b_Net_times .nil pass0 (pa_cons (pv 8) (pa_cons (pv 3) pa_nil))) pa_nil))))
      (pss_cons (ps_set (i := 12) sc_Net_row.nd rfl (Or.inl rfl) (pe_op (k_addG (K := K) rfl) (pe_lc (own := [("row", 16)]) (g := gName 16) (tt := tYes) rfl sc_Net_row.nd (k_seqS (K := K) rfl (pv 1)) (blkOk_by (own := [("row", 16)]) (by kernel_rfl)) (fun _ _ _ _ _ => (pg_name (i := 16) sc_Net_row.nd rfl (by first | exact Or.inl rfl | exact Or.inr rfl))) (fun _ _ _ _ _ => pts_nil) (fun _ _ _ _ _ => (pe_ix (k_ix (K := K) rfl) (pe_ix (k_ix (K := K) rfl) (pv 16) pe_int (fun _ _ => rfl)) (pv 5) (fun _ _ => rfl)))) (pe_lst (pa_cons (pv 11) pa_nil))))
      (pss_cons (ps_set (i := 3) sc_Net_row.nd rfl (Or.inr rfl) (pe_meth (pv 0) T.C_Net T.m_Net_plus (ok_Net_plus T) (hr.mono (by decide)) T.b_Net_plus .nil pass0 (pa_cons (pv 3) (pa_cons (pe_meth (pv 0) T.C_Net T.m_Net_looked_at (ok_Net_looked_at T) (hr.mono (by decide)) T.b_Net_looked_at .nil pass0 (pa_cons (pe_meth (pv 0) T.C_Net T.m_Net_times (ok_Net_times T) (hr.mono (by decide)) T.b_Net_times .nil pass0 (pa_cons (pv 6) (pa_cons (pv 3) pa_nil))) (pa_cons (pv 12) pa_nil))) pa_nil))))
      (pss_cons (ps_set (i := 3) sc_Net_row.nd rfl (Or.inr rfl) (pe_meth (pv 0) T.C_Net T.m_Net_plus (ok_Net_plus T) (hr.mono (by decide)) T.b_Net_plus .nil pass0 (pa_cons (pv 3) (pa_cons (pe_meth (pv 0) T.C_Net T.m_Net_times (ok_Net_times T) (hr.mono (by decide)) T.b_Net_times .nil pass0 (pa_cons (pv 10) (pa_cons (pe_lc (own := [("number", 15)]) (g := gName 15) (tt := tYes) rfl sc_Net_row.nd (k_seqS (K := K) rfl (pe_meth (pv 0) T.C_Net T.m_Net_times (ok_Net_times T) (hr.mono (by decide)) T.b_Net_times .nil pass0 (pa_cons (pv 9) (pa_cons (pv 3) pa_nil)))) (blkOk_by (own := [("number", 15)]) (by kernel_rfl)) (fun _ _ _ _ _ => (pg_name (i := 15) sc_Net_row.nd rfl (by first | exact Or.inl rfl | exact Or.inr rfl))) (fun _ _ _ _ _ => pts_nil) (fun _ _ _ _ _ => (pe_op op_mul (pv 15) (pv 15)))) pa_nil))) pa_nil))))
      (pss_one (ps_expr (k_bm (K := K) rfl PySem.F.plainAttrs_list PySem.F.slot_list_append PySem.F.type_list_append mt_append (pv 4) (pa_cons (pv 11) pa_nil)))))))))
      (pss_cons (ps_setLc (i := 13) (own := [("vector", 14)]) (g := gName 14) (tt := tYes) rfl sc_Net_row.nd rfl rfl (sw_true rfl rfl rfl (by decide +kernel)) (k_seqS (K := K) rfl (k_fld (K := K) rfl (pv 0) rfl)) (blkOk_by (own := [("vector", 14)]) (by kernel_rfl)) (fun _ _ _ _ _ => (pg_name (i := 14) sc_Net_row.nd rfl (by first | exact Or.inl rfl | exact Or.inr rfl))) (fun _ _ _ _ _ => pts_nil) (fun _ _ _ _ _ => (pe_op (k_addG (K := K) rfl) pe_int (pe_meth (pv 0) T.C_Net T.m_Net_rest (ok_Net_rest T) (hr.mono (by decide)) T.b_Net_rest .nil pass0 (pa_cons (pe_call (ok_product_sum T) (hr.mono (by decide)) (by rfl) T.g_product_sum T.F_product_sum.kp T.b_product_sum .nil pass0 (pa_cons (pv 14) (pa_cons (pv 3) pa_nil))) pa_nil)))))
      (pss_one (ps_ret (pe_tup (pa_cons (pe_callTy (k_tupS (K := K) rfl) (by rfl) T.z_tuple (by decide +kernel) (pa_cons (pv 4) pa_nil)) (pa_cons (pe_callTy (k_tupS (K := K) rfl) (by rfl) T.z_tuple (by decide +kernel) (pa_cons (pv 13) pa_nil)) pa_nil)))))))))), ?_⟩
    refine go_start (σ' := [some (.ref p), some (.ref ar), some (.int (l : Nat)), none, none, none, none, none, none, none, none, none, none, none, none, none, none]) rfl ?_
    walk_at "go"
    refine ⟨p, nd, e, _, rfl, hN, ?_⟩
    walk_at "go"
    refine w_iteN (fun hc => absurd (show 0 ≤ ((l : Nat) : Int) ∧ ((l : Nat) : Int) ≤ (nd.emb.length : Int) - 1 by omega) hc) (fun _ => ?_)
    walk_at "go"
    have hel : nd.emb[l]? = some (nd.emb.getD l []) := by
      rw [List.getD_eq_getElem?_getD, List.getElem?_eq_getElem hl]
      rfl
    obtain ⟨ye, hye, ⟨aye, rfl, hye2⟩⟩ := RSeq.get hEl hEr hel
    have hew : (nd.emb.getD l []).length = wd := (ok.emb _ (List.mem_of_getElem? hel)).1
    refine w_ix hE1 (atI_nat hye) ?_
    walk_at "go"
    refine c_ints (nd.sh.map V.int) hSh (nd.sh.map fun n => (rows.length : Int) * n) (by rw [List.length_map, List.length_map]) (line_of (by rw [List.length_map, ok.sh.1]; omega)) (fun _ => rfl) (fun i y H1 N hi hy sm hN2 => ?_) (fun D H1 hD s1 e1 => ?_)
    · obtain ⟨rfl, hi1⟩ := vec_at hy
      have hb := ok.sh.2.bd ok.p97 _ (nth_mem (ns := nd.sh) (i := ((i : Nat) : Int)) (by omega) (by omega))
      walk_at "go"
      rw [hRl, ← nth_map (f := fun n => (rows.length : Int) * n) hi1]
      exact hN2 _ (Same.refl _)
    walk_at "go"
    refine ⟨p, nd, e, _, _, _, _, rfl, hN.mono s1, hp0, ⟨false, aye, rfl, s1.sq hye2⟩, ⟨true, D, rfl, Sq.lst e1⟩, by rw [hew, List.length_map, ok.sh.1], by omega, fun v' H2 s2 ⟨ax, ev, hx⟩ => ?_⟩
    subst ev
    walk_at "go"
    refine ⟨Nat.zero_le _, fun ol hol => ?_⟩
    have s12 := s1.trans s2
    have hx0 := startX_ok ok (rows := rows) hl
    have hxs : startX nd rows l = vplus nd.p (nd.emb.getD l []) (nd.sh.map fun n => (rows.length : Int) * n) := rfl
    walk_at "go"
    refine l_enum (b := false) lvs (fun i σ H' => ∃ (ax : Addr) (y5 y6 y7 y8 y9 y10 y11 y12 y13 y14 y15 y16 : Option V), σ = [some (.ref p), some (.ref ar), some (.int (l : Nat)), some (.ref ax), some (.ref ol), y5, y6, y7, y8, y9, y10, y11, y12, y13, y14, y15, y16] ∧
        RVec false K H' (.ref ax) (rowSt nd rows (startX nd rows l) i).2 ∧ Filled (RPr K) H2 H' ol (rowSt nd rows (startX nd rows l) i).1)
      ((s12.trans (Same.new hol)).sq hL1) ⟨ax, none, none, none, none, none, none, none, none, none, none, none, none, rfl, RVec.mono _ _ _ _ (Same.new hol) ⟨ax, rfl, by rw [show (rowSt nd rows (startX nd rows l) 0).2 = startX nd rows l from rfl, hxs]; exact hx⟩, Filled.nil hol⟩ ?_ ?_ ?_
    · rintro i σ H' hi ⟨_, _, _, _, _, _, _, _, _, _, _, _, _, _, _, f⟩
      exact (s12.trans f.same).sq hL1
    · rintro i y T' σ H' hi hy ⟨ax, y5, y6, y7, y8, y9, y10, y11, y12, y13, y14, y15, y16, rfl, hxv, f⟩ hT
      have hi' : i < nd.lay.length := by omega
      have hL : nd.lay[i]? = some (nd.lay.getD i []) := by
        rw [List.getD_eq_getElem?_getD, List.getElem?_eq_getElem hi']
        rfl
      generalize eL : nd.lay.getD i [] = L at hL
      obtain ⟨hL5, hLm⟩ := ok.lay L (List.mem_of_getElem? hL)
      obtain ⟨st1, st2, st3, st4⟩ := rowSt_ok ok hro hx0 i (by omega)
      generalize ex : (rowSt nd rows (startX nd rows l) i).2 = x at hxv st3 st4
      have sT : Same H' (upd H' T' (.tup [.int (i : Int), y])) := Same.new hT
      have f := f.mono RPr.mono sT
      have hxv := RVec.mono _ _ _ _ sT hxv
      have s3 := s12.trans f.same
      have hy5 := RSeq.mono RMat.mono _ _ _ _ s3 (hLr i y L hy hL)
      rw [five_of hL5] at hy5
      obtain ⟨a5, q0, q1, q2, q3, q4, rfl, h5, m0, m1, m2, m3, m4⟩ := RSeq.five hy5
      refine w_pairG (Sq.tup upd_same) ?_
      refine w_five h5 ?_
      have hM : ∀ j : Nat, j < 5 → (mt L j).length = wd ∧ MatOk nd.p wd (mt L j) := fun j hj => (mt_ok ⟨hL5, hLm⟩ hj).2
      have p97 := ok.p97
      -- pair
      walk_at "go"
      refine ⟨p, nd, e, _, _, _, x, rfl, hN.mono s3, hp0, m1, ⟨false, hxv⟩, mat_bd p97 (hM 1 (by omega)).2 st3, by rw [(hM 1 (by omega)).1]; omega, fun vk H4 s4 rk => ?_⟩
      walk_at "go"
      refine ⟨p, nd, e, _, _, _, x, rfl, (hN.mono s3).mono s4, hp0, RMat.mono _ _ _ _ s4 m2, ⟨false, RVec.mono _ _ _ _ s4 hxv⟩, mat_bd p97 (hM 2 (by omega)).2 st3, by rw [(hM 2 (by omega)).1]; omega, fun vv H5 s5 rv => ?_⟩
      walk_at "go"
      refine ⟨(by show 2 ≤ sizeLine; decide), fun ap hap => ?_⟩
      walk_at "go"
      have s6 : Same H5 (upd H5 ap (.tup [vk, vv])) := Same.new hap
      have hpair : RPr K (upd H5 ap (.tup [vk, vv])) (.ref ap) (pairOf nd.p L x) := ⟨ap, vk, vv, rfl, Sq.tup upd_same, RVec.mono _ _ _ _ (s5.trans s6) rk, RVec.mono _ _ _ _ s6 rv⟩
      have s36 := (s4.trans s5).trans s6
      generalize upd H5 ap (.tup [vk, vv]) = H6 at s6 hpair s36 ⊢
      have f6 := f.mono RPr.mono s36
      have s06 := s3.trans s36
      -- pairs
      refine c_rep (R := RPr K) RPr.mono RPr.tup rvs (s06.sq hR) (prsAt rows i) (by unfold prsAt; rw [List.length_map, hRl]) (line_of (by omega)) (fun _ => rfl) (fun j z d H7 N hj hz hd s7 hN2 => ?_) (fun D7 H7 ys hD7 s7 e7 hyl hyr => ?_)
      · have hrj : rows[j]? = some (rows[j]'(by omega)) := List.getElem?_eq_getElem (by omega)
        generalize rows[j]'(by omega) = r at hrj
        have ed : d = r.1.getD i ([], []) := by
          unfold prsAt at hd
          rw [List.getElem?_map, hrj] at hd
          exact (Option.some.inj hd).symm
        obtain ⟨az, z1, z2, rfl, hz1, ⟨ap1, pvs, rfl, hp1, hpl, hpr⟩, _⟩ := RRow.mono _ _ _ _ (s06.trans s7) (hRr j z r hz hrj)
        have hr1 : r.1[i]? = some (r.1.getD i ([], [])) := by
          rw [List.getD_eq_getElem?_getD, List.getElem?_eq_getElem (by rw [(hro r (List.mem_of_getElem? hrj)).1]; exact hi')]
          rfl
        obtain ⟨yp, hyp, rp⟩ := RSeq.get hpl hpr hr1
        walk_at "go"
        refine w_ix hz1 (atI_nat (j := 0) rfl) ?_
        walk_at "go"
        refine w_ix hp1 (atI_nat hyp) ?_
        exact hN2 _ _ (Same.refl _) (by rw [ed]; exact rp)
      walk_at "go"
      refine ⟨(by show 1 ≤ sizeLine; decide), fun b1 hb1 => ?_⟩
      have s8 := s7.trans (Same.new (o := .lst [.ref ap]) hb1)
      have hlen7 : ys.length = rows.length := by rw [hyl]; exact List.length_map ..
      refine w_catLL (Same.at (Same.new hb1) e7) upd_same (by rw [sizeLine_eq]; simp only [List.length_cons, List.length_nil]; omega) fun b2 hb2 => ?_
      walk_at "go"
      have s9 := s8.trans (Same.new (o := .lst (ys ++ [.ref ap])) hb2)
      have hprs : RSeq true K (RPr K) (upd (upd H7 b1 (.lst [.ref ap])) b2 (.lst (ys ++ [.ref ap]))) (.ref b2) (prsAt rows i ++ [pairOf nd.p L x]) := by
        refine ⟨b2, _, rfl, Sq.lst upd_same, by rw [List.length_append, List.length_append, hyl]; rfl, fun j y' d' h1 h2 => ?_⟩
        by_cases hj : j < ys.length
        · rw [List.getElem?_append_left hj] at h1
          rw [List.getElem?_append_left (by omega)] at h2
          exact RPr.mono _ _ _ _ ((Same.new hb1).trans (Same.new hb2)) (hyr j y' d' h1 h2)
        · have h3 := (List.getElem?_eq_some_iff.mp h1).1
          rw [List.length_append] at h3
          have ej : j = ys.length := by
            have : j < ys.length + 1 := h3
            omega
          subst ej
          rw [List.getElem?_append_right (Nat.le_refl _), Nat.sub_self] at h1
          rw [hyl, List.getElem?_append_right (Nat.le_refl _), Nat.sub_self] at h2
          cases h1
          cases h2
          exact RPr.mono _ _ _ _ s9 hpair
      generalize upd (upd H7 b1 (.lst [.ref ap])) b2 (.lst (ys ++ [.ref ap])) = H9 at s9 hprs ⊢
      have s39 := s36.trans s9
      have s09 := s3.trans s39
      have f9 := f6.mono RPr.mono s9
      have hx9 := RVec.mono _ _ _ _ s39 hxv
      have hprok := prsAt_ok hro (i := i) hi'
      have hpo := pairOf_ok (x := x) hp0 ⟨hL5, hLm⟩
      -- x = plus(x, looked_at(times(query, x), pairs))
      refine ⟨p, nd, e, _, _, _, x, rfl, hN.mono s09, hp0, RMat.mono _ _ _ _ s39 m0, ⟨false, hx9⟩, mat_bd p97 (hM 0 (by omega)).2 st3, by rw [(hM 0 (by omega)).1]; omega, fun vq H10 s10 rq => ?_⟩
      walk_at "go"
      refine ⟨p, nd, e, _, _, _, _, true, rfl, (hN.mono s09).mono s10, hp0, rq, RSeq.mono RPr.mono _ _ _ _ s10 hprs, (vtimes_sml hp0 _ _).bd p97, by rw [vtimes_len, (hM 0 (by omega)).1]; omega, by rw [List.length_append]; unfold prsAt; rw [List.length_map]; simp only [List.length_cons, List.length_nil]; omega, fun o ho => ?_, fun vl H11 s11 rl => ?_⟩
      · rw [vtimes_len, (hM 0 (by omega)).1]
        rcases List.mem_append.mp ho with h | h
        · exact ⟨(hprok o h).1.1, (hprok o h).2.1, (hprok o h).2.2.bd p97⟩
        · rw [List.mem_singleton.mp h]; exact ⟨hpo.1.1, hpo.2.1, hpo.2.2.bd p97⟩
      walk_at "go"
      have hmid : (looked nd.p (vtimes nd.p (mt L 0) x) (prsAt rows i ++ [pairOf nd.p L x]) (zeros (vtimes nd.p (mt L 0) x))).length = wd := by
        rw [looked_len, zeros_len, vtimes_len, (hM 0 (by omega)).1]
        intro kv hk
        rw [zeros_len, vtimes_len, (hM 0 (by omega)).1]
        rcases List.mem_append.mp hk with h | h
        · exact (hprok kv h).2.1
        · rw [List.mem_singleton.mp h]; exact hpo.2.1
      have s911 := s10.trans s11
      refine ⟨p, nd, e, _, _, _, _, rfl, (hN.mono s09).mono s911, hp0, ⟨false, RVec.mono _ _ _ _ s911 hx9⟩, ⟨false, rl⟩, by rw [st3, hmid], by omega, fun vm H12 s12' rm => ?_⟩
      walk_at "go"
      have rm : RVec false K H12 vm (midOf nd.p L (prsAt rows i) x) := rm
      have hml := midOf_len (x := x) hp0 ⟨hL5, hLm⟩ hprok st3
      have s912 := s911.trans s12'
      have s012 := s09.trans s912
      have s312 := s39.trans s912
      -- x = plus(x, times(second, [number * number for number in times(first, x)]))
      refine ⟨p, nd, e, _, _, _, _, rfl, hN.mono s012, hp0, RMat.mono _ _ _ _ s312 m3, ⟨false, rm⟩, mat_bd p97 (hM 3 (by omega)).2 hml, by rw [(hM 3 (by omega)).1]; omega, fun vf H13 s13 rf => ?_⟩
      walk_at "go"
      obtain ⟨af, rfl, hf2⟩ := rf
      refine c_ints ((vtimes nd.p (mt L 3) (midOf nd.p L (prsAt rows i) x)).map V.int) hf2 (sqOf nd.p L (midOf nd.p L (prsAt rows i) x)) (by unfold sqOf; rw [List.length_map, List.length_map]) (line_of (by rw [List.length_map, vtimes_len, (hM 3 (by omega)).1]; omega)) (fun _ => rfl) (fun j z H14 N hj hz s14 hN2 => ?_) (fun D14 H14 hD14 s14 e14 => ?_)
      · obtain ⟨rfl, hj1⟩ := vec_at hz
        have hb := (vtimes_sml (p := nd.p) hp0 (mt L 3) (midOf nd.p L (prsAt rows i) x)).bd p97 _ (nth_mem (i := ((j : Nat) : Int)) (by omega) (by omega))
        walk_at "go"
        have en : nth (sqOf nd.p L (midOf nd.p L (prsAt rows i) x)) ((j : Nat) : Int) = nth (vtimes nd.p (mt L 3) (midOf nd.p L (prsAt rows i) x)) (j : Nat) * nth (vtimes nd.p (mt L 3) (midOf nd.p L (prsAt rows i) x)) (j : Nat) := nth_map (f := fun a => a * a) hj1
        rw [← en]
        exact hN2 _ (Same.refl _)
      walk_at "go"
      have hsl : (sqOf nd.p L (midOf nd.p L (prsAt rows i) x)).length = wd := by unfold sqOf; rw [List.length_map, vtimes_len, (hM 3 (by omega)).1]
      have s1214 := s13.trans s14
      refine ⟨p, nd, e, _, _, _, _, rfl, (hN.mono s012).mono s1214, hp0, RMat.mono _ _ _ _ (s312.trans s1214) m4, ⟨true, D14, rfl, Sq.lst e14⟩, mat_bd p97 (hM 4 (by omega)).2 hsl, by rw [(hM 4 (by omega)).1]; omega, fun vt H15 s15 rt => ?_⟩
      walk_at "go"
      have s1215 := s1214.trans s15
      refine ⟨p, nd, e, _, _, _, _, rfl, (hN.mono s012).mono s1215, hp0, ⟨false, RVec.mono _ _ _ _ s1215 rm⟩, ⟨false, rt⟩, by rw [hml, vtimes_len, (hM 4 (by omega)).1], by omega, fun vz H16 s16 rz => ?_⟩
      walk_at "go"
      have s1216 := s1215.trans s16
      have f16 := (f9.mono RPr.mono s912).mono RPr.mono s1216
      have hp16 : RPr K H16 (.ref ap) (pairOf nd.p L x) := RPr.mono _ _ _ _ ((s9.trans s912).trans s1216) hpair
      obtain ⟨ys16, e16, hl16, _⟩ := f16.at_
      obtain ⟨ys', e', hl', fp⟩ := f16.push (RPr.tup _ _ _ _ (NTup.lst e16) hp16)
      have eys : ys' = ys16 := by
        rw [e16] at e'
        cases e'
        rfl
      subst eys
      refine w_tyL (Sq.lst e16) ?_
      walk_at "go"
      refine w_append e16 (line_of (by rw [hl16, st1]; have := ok.l3; omega)) ?_
      walk_at "go"
      obtain ⟨az, rfl, hz16⟩ := rz
      refine ⟨az, _, _, _, _, _, _, _, _, _, _, _, _, rfl, ?_, ?_⟩
      · have h1 : (rowSt nd rows (startX nd rows l) (i + 1)).2 = nextOf nd.p L (prsAt rows i) x := by
          show nextOf nd.p (nd.lay.getD i []) (prsAt rows i) (rowSt nd rows (startX nd rows l) i).2 = _
          rw [eL, ex]
        rw [h1]
        exact RTup.upd RVec.tup RVec.mono (NTup.lst e16) ⟨az, rfl, hz16⟩
      · have h1 : (rowSt nd rows (startX nd rows l) (i + 1)).1 = (rowSt nd rows (startX nd rows l) i).1 ++ [pairOf nd.p L x] := by
          show (rowSt nd rows (startX nd rows l) i).1 ++ [pairOf nd.p (nd.lay.getD i []) (rowSt nd rows (startX nd rows l) i).2] = _
          rw [eL, ex]
        rw [h1]
        exact fp
    · rintro σ H' ⟨ax, y5, y6, y7, y8, y9, y10, y11, y12, y13, y14, y15, y16, rfl, hxv, f⟩
      rw [hLl] at hxv f
      obtain ⟨st1, st2, st3, st4⟩ := rowSt_ok ok hro hx0 nd.lay.length (Nat.le_refl _)
      have s3 := s12.trans f.same
      walk_at "go"
      have e3 : (lastSt nd rows l).2 = (rowSt nd rows (startX nd rows l) nd.lay.length).2 := rfl
      rw [← e3] at hxv st3
      refine c_ints ovs (s3.sq hO1) (rowD nd rows l).2 (by show (nd.out.map _).length = _; rw [List.length_map, hOl]) (line_of (by have := ok.o12; omega)) (fun _ => rfl) (fun j y H4 N hj hy s4 hN2 => ?_) (fun D4 H4 hD4 s4 e4 => ?_)
      · have hd : nd.out[j]? = some (nd.out[j]'(by omega)) := List.getElem?_eq_getElem (by omega)
        have ho := ok.out _ (List.mem_of_getElem? hd)
        walk_at "go"
        refine ⟨_, _, _, _, rfl, ⟨false, RVec.mono _ _ _ _ (s3.trans s4) (hOr j y _ hy hd)⟩, ⟨false, RVec.mono _ _ _ _ s4 hxv⟩, by rw [ho.1, st3], ho.2.bd ok.p97, fun H5 s5 => ?_⟩
        refine ⟨p, nd, e, _, rfl, (hN.mono (s3.trans s4)).mono s5, hp0, ?_⟩
        walk_at "go"
        have en : nth (rowD nd rows l).2 ((j : Nat) : Int) = 1 + dot (nd.out[j]'(by omega)) (lastSt nd rows l).2 % nd.p := nth_mapG (f := fun v => 1 + dot v (lastSt nd rows l).2 % nd.p) hd
        rw [← en]
        exact hN2 _ s5
      walk_at "go"
      have f4 := f.mono RPr.mono s4
      obtain ⟨a4, ys4, e4', hS4, hl4, hr4⟩ := f4.seq RPr.mono (K := K)
      cases e4'
      refine w_tupL hS4 fun t1 ht1 => ?_
      walk_at "go"
      have s5 : Same H4 (upd H4 t1 (.tup ys4)) := Same.new ht1
      refine w_tupL (Sq.lst (s5 _ _ e4)) fun t2 ht2 => ?_
      walk_at "go"
      have s6 : Same (upd H4 t1 (.tup ys4)) (upd (upd H4 t1 (.tup ys4)) t2 (.tup ((rowD nd rows l).2.map V.int))) := Same.new ht2
      refine ⟨(by show 2 ≤ sizeLine; decide), fun t3 ht3 => ?_⟩
      walk_at "go"
      have s7 := Same.new (o := .tup [.ref t1, .ref t2]) ht3
      refine k _ _ (((s3.trans s4).trans (s5.trans s6)).trans s7) ⟨t3, .ref t1, .ref t2, rfl, Sq.tup upd_same, ⟨t1, ys4, rfl, ((s6.trans s7).sq (Sq.tup upd_same)), hl4, fun i y d h1 h2 => RPr.mono _ _ _ _ ((s5.trans s6).trans s7) (hr4 i y d h1 h2)⟩, ⟨t2, rfl, s7.sq (Sq.tup upd_same)⟩⟩

/-! ### rows of letters, a net made -/
theorem rowsD_snoc (nd : NetD) (l : Nat) : ∀ (ls : List Nat) (acc : List RowD), rowsD nd (ls ++ [l]) acc = rowsD nd ls acc ++ [rowD nd (rowsD nd ls acc) l]
  | [], acc => rfl
  | a :: r, acc => rowsD_snoc nd l r (acc ++ [rowD nd acc a])
theorem rowsD_len (nd : NetD) : ∀ (ls : List Nat) (acc : List RowD), (rowsD nd ls acc).length = acc.length + ls.length
  | [], acc => rfl
  | a :: r, acc => by
    show (rowsD nd r (acc ++ [rowD nd acc a])).length = acc.length + (r.length + 1)
    rw [rowsD_len nd r, List.length_append, List.length_singleton]
    omega
theorem rowsD_ok {nd : NetD} {w : Nat} (ok : NetOk nd w) : ∀ (ls : List Nat) (acc : List RowD), (∀ l ∈ ls, l < nd.emb.length) → (∀ r ∈ acc, RowOk nd w r) → ∀ r ∈ rowsD nd ls acc, RowOk nd w r
  | [], acc, _, h => h
  | a :: r, acc, hl, h => rowsD_ok ok r _ (fun l hm => hl l (List.mem_cons_of_mem _ hm)) fun x hx => by
    rcases List.mem_append.mp hx with h1 | h1
    · exact h x h1
    · rw [List.mem_singleton.mp h1]; exact rowD_ok ok h (hl a (List.mem_cons_self ..))
def natI (ls : List Nat) : List Int := ls.map fun l => ((l : Nat) : Int)
theorem natI_len (ls : List Nat) : (natI ls).length = ls.length := List.length_map ..
theorem natI_at {ls : List Nat} {i : Nat} {y : V} (h : ((natI ls).map V.int)[i]? = some y) : ∃ l, ls[i]? = some l ∧ y = .int (l : Nat) := by
  rw [natI, List.map_map, List.getElem?_map] at h
  cases e : ls[i]? with
  | none => rw [e] at h; cases h
  | some l => rw [e] at h; exact ⟨l, rfl, (Option.some.inj h).symm⟩

def lastW (rows : List RowD) : List Int := (rows.getLastD ([], [])).2
theorem last_atV {α : Type} {xs : List α} {x : α} {n : Nat} (h : xs[n]? = some x) (hn : xs.length = n + 1) : atI xs (-1) = some x := by
  unfold atI ixN
  rw [if_neg (by decide), if_pos (by omega)]
  show xs[(-1 + ((xs.length : Nat) : Int)).toNat]? = _
  rw [show (-1 + ((xs.length : Nat) : Int)).toNat = n by omega]
  exact h
def primes : List Int := [2, 3, 5, 7, 11, 13, 17, 19, 23, 29, 31, 37, 41, 43, 47, 53, 59, 61, 67, 71, 73, 79, 83, 89, 97]
theorem prime_in {p : Int} (h : p ∈ primes) : (if true = true then !inV (.int p) (primes.map V.int) else inV (.int p) (primes.map V.int)) = false := by
  rw [if_pos rfl]
  have : inV (.int p) (primes.map V.int) = true := by
    unfold inV
    exact List.any_eq_true.mpr ⟨.int p, List.mem_map.mpr ⟨p, h, rfl⟩, by rw [eqV_int]; exact beq_self_eq_true p⟩
  rw [this]
  rfl
theorem prime_between {p : Int} (h : p ∈ primes) : 2 ≤ p ∧ p ≤ 97 := by
  simp only [primes, List.mem_cons, List.not_mem_nil, or_false] at h
  omega
def sp_Net___init__ (K : PySem.W.Frag) (C : Addr) : Sp := fun vs H Q _ => ∃ (p dx : Addr) (nd : NetD) (v1 v2 v3 v4 e : V), vs = [.ref p, .int nd.p, v1, v2, v3, v4, e] ∧ H p = some (.ins C dx []) ∧ nd.p ∈ primes ∧
  RMatX K (hide p H) v1 nd.emb ∧ RVecX K (hide p H) v2 nd.sh ∧ RLayX K (hide p H) v3 nd.lay ∧ RMatX K (hide p H) v4 nd.out ∧ nd.emb.length ≤ 1000 ∧ nd.out.length ≤ 1000 ∧ nd.lay.length ≤ 1000 ∧ (∀ L ∈ nd.lay, L.length ≤ 1000 ∧ ∀ M ∈ L, M.length ≤ 1000) ∧
  ∀ H', Same (hide p H) (hide p H') → IsNet K C H' p nd e → Q .non H'
theorem ok_Net___init__ (T : Txt K mg) : FnOk P w K mg base CX0 3 T.a_Net___init__ T.d_Net___init__ ["self", "prime", "embed", "shift", "layers", "out", "end"] (sp_Net___init__ K T.c_Net) := by
  refine T.F_Net___init__.ok sc_Net___init__ (fun vs H Q E h => ?_) (fun cdv A outer s H vs Q E hr h => ?_)
  · obtain ⟨_, _, _, _, _, _, _, _, rfl, _⟩ := h
    rfl
  · obtain ⟨p, dx, nd, v1, v2, v3, v4, e, rfl, h0, hpr, f1, f2, f3, f4, z1, z2, z3, z4, k⟩ := h
    have cN := T.C_Net
    have n0 := T.n_Net_prime
    have n1 := T.n_Net_embed
    have n2 := T.n_Net_shift
    have n3 := T.n_Net_layers
    have n4 := T.n_Net_out
    have n5 := T.n_Net_end
    have hb := prime_between hpr
    refine ⟨_, (pss_cons (ps_if (PW.pt (pw_or (pt_not (k_tru (K := K) rfl (pe_call (ok_is_between T) (hr.mono (by decide)) (by rfl) T.g_is_between T.F_is_between.kp T.b_is_between .nil pass0 (pa_cons (pv 1) (pa_cons pe_int (pa_cons pe_int pa_nil)))) (by intro _; rfl))) (pw_or1 (pt_cmpR (k_notInS (K := K) rfl) (pv 1) (pe_glob (v := .ref T.k_PRIMES) (by rfl) T.gk_PRIMES rfl) rfl)))) (pss_one ps_never) pss_nil)
      (pss_cons (k_sfld (K := K) rfl (pv 0) (pv 1) rfl)
      (pss_cons (k_sfld (K := K) rfl (pv 0) (pe_call (ok_matrix_of T) (hr.mono (by decide)) (by rfl) T.g_matrix_of T.F_matrix_of.kp T.b_matrix_of .nil pass0 (pa_cons (pv 2) pa_nil)) rfl)
      (pss_cons (k_sfld (K := K) rfl (pv 0) (pe_call (ok_vector_of T) (hr.mono (by decide)) (by rfl) T.g_vector_of T.F_vector_of.kp T.b_vector_of .nil pass0 (pa_cons (pv 3) pa_nil)) rfl)
      (pss_cons (k_sfld (K := K) rfl (pv 0) (pe_callTy (k_tupS (K := K) rfl) (by rfl) T.z_tuple (by decide +kernel) (pa_cons (pe_lc (own := [("layer", 7)]) (g := gName 7) (tt := tYes) rfl sc_Net___init__.nd (k_seqS (K := K) rfl (pv 4)) (blkOk_by (own := [("layer", 7)]) (by kernel_rfl)) (fun _ _ _ _ _ => (pg_name (i := 7) sc_Net___init__.nd rfl (by first | exact Or.inl rfl | exact Or.inr rfl))) (fun _ _ _ _ _ => pts_nil) (fun _ _ _ _ _ => (pe_callTy (k_tupS (K := K) rfl) (by rfl) T.z_tuple (by decide +kernel) (pa_cons (pe_lc (own := [("matrix", 8)]) (g := gName 8) (tt := tYes) rfl sc_Net___init__.nd (k_seqS (K := K) rfl (pv 7)) (blkOk_by (own := [("matrix", 8)]) (by kernel_rfl)) (fun _ _ _ _ _ => (pg_name (i := 8) sc_Net___init__.nd rfl (by first | exact Or.inl rfl | exact Or.inr rfl))) (fun _ _ _ _ _ => pts_nil) (fun _ _ _ _ _ => (pe_call (ok_matrix_of T) (hr.mono (by decide)) (by rfl) T.g_matrix_of T.F_matrix_of.kp T.b_matrix_of .nil pass0 (pa_cons (pv 8) pa_nil)))) pa_nil)))) pa_nil)) rfl)
      (pss_cons (k_sfld (K := K) rfl (pv 0) (pe_call (ok_matrix_of T) (hr.mono (by decide)) (by rfl) T.g_matrix_of T.F_matrix_of.kp T.b_matrix_of .nil pass0 (pa_cons (pv 5) pa_nil)) rfl)
      (pss_one (k_sfld (K := K) rfl (pv 0) (pv 6) rfl)))))))), ?_⟩
    refine go_start (σ' := [some (.ref p), some (.int nd.p), some v1, some v2, some v3, some v4, some e, none, none]) rfl ?_
    walk_at "go"
    refine ⟨_, _, _, _, rfl, .inl ⟨_, rfl, rfl⟩, ?_⟩
    rw [decide_eq_true hb]
    walk_at "go"
    refine w_notInS (b := false) (T.tk_PRIMES H) rfl rfl ?_
    have ep := prime_in hpr
    rw [show (primes.map V.int) = [.int 2, .int 3, .int 5, .int 7, .int 11, .int 13, .int 17, .int 19, .int 23, .int 29, .int 31, .int 37, .int 41, .int 43, .int 47, .int 53, .int 59, .int 61, .int 67, .int 71, .int 73, .int 79, .int 83, .int 89, .int 97] from rfl] at ep
    rw [ep]
    walk_at "go"
    -- self.embed
    have b1 : Same (hide p H) (hide p (upd H p (.ins T.c_Net dx [("prime", .int nd.p)]))) := by rw [hide_upd]; exact Same.refl _
    refine ⟨_, _, rfl, RMatX.mono _ _ _ _ (b1.trans (hide_same _ _)) f1, by omega, fun u1 H1 s1 r1 => ?_⟩
    have g1 := s1 p _ upd_same
    have b2 := b1.trans (hide_mono s1)
    have r1 := RMat.tup _ _ _ _ (NTup.ins g1) r1
    walk_at "go"
    -- self.shift
    have b3 : Same (hide p H1) (hide p (upd H1 p (.ins T.c_Net dx [("prime", .int nd.p), ("embed", u1)]))) := by rw [hide_upd]; exact Same.refl _
    refine ⟨_, _, rfl, RVecX.mono _ _ _ _ ((b2.trans b3).trans (hide_same _ _)) f2, fun u2 H2 s2 r2 => ?_⟩
    have g2 := s2 p _ upd_same
    have b4 := b3.trans (hide_mono s2)
    have r2 := RVec.tup _ _ _ _ (NTup.ins g2) r2
    have r1 := RMat.mono _ _ _ _ b4 r1
    have b5 := b2.trans b4
    walk_at "go"
    -- self.layers
    have b6 : Same (hide p H2) (hide p (upd H2 p (.ins T.c_Net dx [("prime", .int nd.p), ("embed", u1), ("shift", u2)]))) := by rw [hide_upd]; exact Same.refl _
    generalize eH3 : upd H2 p (.ins T.c_Net dx [("prime", .int nd.p), ("embed", u1), ("shift", u2)]) = H3 at b6 ⊢
    have g3 : H3 p = some (.ins T.c_Net dx [("prime", .int nd.p), ("embed", u1), ("shift", u2)]) := by rw [← eH3, upd_same]
    obtain ⟨bl, al, lvs, rfl, hL1, hLl, hLr⟩ := RLayX.mono _ _ _ _ ((b5.trans b6).trans (hide_same _ _)) f3
    refine c_rep (R := RSeq false K (RMat K)) (RSeq.mono RMat.mono) (RSeq.tup RMat.tup) lvs hL1 nd.lay hLl.symm (line_of (by omega)) (fun _ => rfl) (fun i y L H4 N hi hy hL s4 hN2 => ?_) (fun D4 H4 ys hD4 s4 e4 hyl hyr => ?_)
    · obtain ⟨zl1, zl2⟩ := z4 L (List.mem_of_getElem? hL)
      obtain ⟨b', aL, ms, rfl, hm1, hml, hmr⟩ := hLr i y L hy hL
      walk_at "go"
      refine c_rep (R := RMat K) RMat.mono RMat.tup ms (s4.sq hm1) L hml.symm (line_of (by omega)) (fun _ => rfl) (fun j z M H5 N2 hj hz hM s5 hN3 => ?_) (fun D5 H5 zs hD5 s5 e5 hzl hzr => ?_)
      · walk_at "go"
        exact ⟨_, _, rfl, RMatX.mono _ _ _ _ (s4.trans s5) (hmr j z M hz hM), by have := zl2 M (List.mem_of_getElem? hM); omega, fun v' H6 s6 r6 => hN3 v' H6 s6 r6⟩
      · walk_at "go"
        refine w_tupL (Sq.lst e5) fun t ht => ?_
        walk_at "go"
        exact hN2 _ _ (s5.trans (Same.new ht)) ⟨t, zs, rfl, Sq.tup upd_same, hzl, fun j z M h1 h2 => RMat.mono _ _ _ _ (Same.new ht) (hzr j z M h1 h2)⟩
    walk_at "go"
    refine w_tupL (Sq.lst e4) fun t ht => ?_
    have s5 := s4.trans (Same.new (o := .tup ys) ht)
    have g4 := s5 p _ g3
    have r3 : RSeq false K (RSeq false K (RMat K)) (upd H4 t (.tup ys)) (.ref t) nd.lay := ⟨t, ys, rfl, Sq.tup upd_same, hyl, fun i y L h1 h2 => RSeq.mono RMat.mono _ _ _ _ (Same.new ht) (hyr i y L h1 h2)⟩
    generalize upd H4 t (.tup ys) = H5 at s5 g4 r3 ⊢
    have r3 := RSeq.tup (RSeq.tup RMat.tup) _ _ _ _ (NTup.ins g4) r3
    have b7 := b6.trans (hide_mono s5)
    have r1 := RMat.mono _ _ _ _ b7 r1
    have r2 := RVec.mono _ _ _ _ b7 r2
    have b8 := b5.trans b7
    walk_at "go"
    -- self.out
    have b9 : Same (hide p H5) (hide p (upd H5 p (.ins T.c_Net dx [("prime", .int nd.p), ("embed", u1), ("shift", u2), ("layers", .ref t)]))) := by rw [hide_upd]; exact Same.refl _
    refine ⟨_, _, rfl, RMatX.mono _ _ _ _ ((b8.trans b9).trans (hide_same _ _)) f4, by omega, fun u4 H6 s6 r4 => ?_⟩
    have g6 := s6 p _ upd_same
    have b10 := b9.trans (hide_mono s6)
    have r4 := RMat.tup _ _ _ _ (NTup.ins g6) r4
    walk_at "go"
    refine k _ (by simp only [hide_upd]; exact b8.trans b10) ⟨dx, u1, u2, .ref t, u4, upd_same, ?_, ?_, ?_, ?_⟩
    · exact RMat.mono _ _ _ _ (hide_same p _) (by simp only [hide_upd]; exact RMat.mono _ _ _ _ b10 r1)
    · exact RVec.mono _ _ _ _ (hide_same p _) (by simp only [hide_upd]; exact RVec.mono _ _ _ _ b10 r2)
    · exact RSeq.mono (RSeq.mono RMat.mono) _ _ _ _ (hide_same p _) (by simp only [hide_upd]; exact RSeq.mono (RSeq.mono RMat.mono) _ _ _ _ b10 r3)
    · exact RMat.mono _ _ _ _ (hide_same p _) (by simp only [hide_upd]; exact r4)

/-! ### values told by a whole number or none; raising; nothing let out -/
def RAny (K : PySem.W.Frag) (H : Hp) (v : V) : Option Int → Prop
  | some i => v = .int i
  | none => ∃ tn, TyX K H v (.type tn) ∧ (tn = "bool" ∨ tn = "NoneType" ∨ tn = "str" ∨ tn = "tuple" ∨ tn = "list")
def btw (a b : Int) : Option Int → Bool
  | some i => decide (a ≤ i ∧ i ≤ b)
  | none => false
theorem RAny.btw {K : PySem.W.Frag} {H : Hp} {v : V} {o : Option Int} (h : RAny K H v o) (a b : Int) : (∃ i, v = .int i ∧ btw a b o = decide (a ≤ i ∧ i ≤ b)) ∨ (My.btw a b o = false ∧ ∃ tn, TyX K H v (.type tn) ∧ (tn = "bool" ∨ tn = "NoneType" ∨ tn = "str" ∨ tn = "tuple" ∨ tn = "list")) := by
  cases o with
  | some i => exact .inl ⟨i, h, rfl⟩
  | none => exact .inr ⟨rfl, h⟩
theorem w_raiseV {K : PySem.W.Frag} {C : Addr} {f : Str} {i : Nat} {v : V} {QX : XK} {σ : L2.St} {H : Hp} (o : OexC K C) (n : PySem.W.findIn K (.ref C) f = some none) (h : σ[i]? = some (some v)) (q : RaiseQ QX H C f v) : tMkO C (spErr K f) [] (tCons (tVar i) tNil) σ H QX :=
  w_mkErrV o n h fun d hd => q d _ hd (Same.new hd) upd_same
theorem w_raiseC {K : PySem.W.Frag} {C : Addr} {f : Str} {v : V} {QX : XK} {σ : L2.St} {H : Hp} (o : OexC K C) (n : PySem.W.findIn K (.ref C) f = some none) (q : RaiseQ QX H C f v) : tMkO C (spErr K f) [] (tCons (tC v) tNil) σ H QX :=
  w_mkErr o n ⟨v, rfl, fun d hd => q d _ hd (Same.new hd) upd_same⟩ fun hq z => hq _ _ z
theorem toCX0 {P : Program} {w : World} {K : PySem.W.Frag} {mg : Str → Option Value} {base : Heap} {k : Nat} {f : Addr} {fd : FuncData} {ps : List Str} {sp : Sp} (F : FnOk P w K mg base (L2N.CX P w) k f fd ps sp) : FnOk P w K mg base CX0 k f fd ps (fun vs H Q _ => sp vs H Q (fun _ _ _ => False)) :=
  ⟨fun vs H Q E h => F.len vs H Q _ h, fun A outer s H args us vs Q E hr e0 hb r h => codeAny_mono (F.run A outer s H args us vs Q (fun _ _ _ => False) hr e0 hb r h) fun r' s' z => by
    match r', z with
    | .error _, z => exact z.elim fun _ ⟨_, _, _, _, _, _, _, _, _, _, _, q⟩ => q.elim
    | .ok (.ret u), z => exact z
    | .ok .next, z => exact z
    | .ok .brk, z => exact z
    | .ok .cont, z => exact z⟩

/-! ### the pool: numbers drawn from behind -/
def IsPool (H : Hp) (p : Addr) : Prop := ∃ ns : List Int, H p = some (.lst (ns.map V.int)) ∧ ∀ x ∈ ns, (0 : Int) ≤ x
def sp_L_draw (K : PySem.W.Frag) : Sp := fun vs H Q _ => ∃ (p : Addr) (m : Int), vs = [.ref p, .int m] ∧ IsPool H p ∧ 0 < m ∧ ∀ (r : Int) H', 0 ≤ r → r < m → Fr p H H' → IsPool H' p → Q (.int r) H'
theorem ok_L_draw (T : Txt K mg) : FnOk P w K mg base CX0 1 T.a_L_draw T.d_L_draw ["_law_pool_here", "_law_many"] (sp_L_draw K) := by
  refine T.F_L_draw.ok sc_L_draw (fun vs H Q E h => ?_) (fun cdv A outer s H vs Q E hr h => ?_)
  · obtain ⟨_, _, rfl, _⟩ := h
    rfl
  · obtain ⟨p, m, rfl, ⟨ns, hp, hns⟩, hm, k⟩ := h
    refine ⟨_, (pss_cons (ps_if (pt_cmpR (k_eqG (K := K) rfl hr.units) (pe_callB (k_lenS (K := K) rfl) (by rfl) T.z_len (by decide +kernel) (pa_cons (pv 0) pa_nil)) pe_int (nomark _)) (pss_one (ps_ret pe_int)) pss_nil)
      (pss_one (ps_ret (pe_op op_mod (pe_callTy cr_int1 (by rfl) T.z_int (by decide +kernel) (pa_cons (k_bm0 (K := K) rfl PySem.F.plainAttrs_list PySem.F.slot_list_pop PySem.F.type_list_pop mt_pop (pv 0)) pa_nil)) (pv 1))))), ?_⟩
    refine go_start (σ' := [some (.ref p), some (.int m)]) rfl ?_
    try dsimp only [cxOf, Cx.nox, Cx.wish]
    walk_at "go"
    refine w_iteD (fun h0 => ?_) (fun h0 => ?_)
    · walk_at "go"
      exact k 0 _ (Int.le_refl _) hm (Fr.refl _ _) ⟨ns, hp, hns⟩
    · walk_at "go"
      refine w_bm0 ?_
      walk_at "go"
      refine w_pop hp (by omega) ?_
      walk_at "go"
      exact k _ _ (Int.emod_nonneg _ (by omega)) (Int.emod_lt_of_pos _ hm) ((Fr.refl _ _).upd _) ⟨ns.dropLast, upd_same, fun x hx => hns x (List.dropLast_subset ns hx)⟩
def sp_L_pool (K : PySem.W.Frag) : Sp := fun vs H Q _ => ∃ (a : Addr) (cs : List Int) (n : Int), vs = [.ref a, .int n] ∧ Sq true K H a (cs.map V.int) ∧ cs.length ≤ 63 ∧ 0 ≤ n ∧ n ≤ 10000 ∧ ∀ p H', H p = none → Same H H' → IsPool H' p → Q (.ref p) H'
theorem ok_L_pool (T : Txt K mg) : FnOk P w K mg base CX0 1 T.a_L_pool T.d_L_pool ["_law_script", "_law_many"] (sp_L_pool K) := by
  refine T.F_L_pool.ok sc_L_pool (fun vs H Q E h => ?_) (fun cdv A outer s H vs Q E hr h => ?_)
  · obtain ⟨_, _, _, rfl, _⟩ := h
    rfl
  · obtain ⟨a, cs, n, rfl, hS, hcl, hn0, hn1, k⟩ := h
    refine ⟨_, (pss_cons (ps_set (i := 2) sc_L_pool.nd rfl (Or.inl rfl) (pe_lst pa_nil))
      (pss_cons (ps_set (i := 3) sc_L_pool.nd rfl (Or.inl rfl) pe_int)
      (pss_cons (ps_for PassesOwn.never rfl (k_seqS (K := K) rfl (pv 0)) (pg_name (i := 4) sc_L_pool.nd rfl (Or.inl rfl))
      (pss_cons (ps_set (i := 5) sc_L_pool.nd rfl (Or.inl rfl) (pe_callTy cr_int1 (by rfl) T.z_int (by decide +kernel) (pa_cons (pe_callB cr_abs (by rfl) T.z_abs (by decide +kernel) (pa_cons (pv 4) pa_nil)) pa_nil)))
      (Evl.pss_cut (ps_if (pt_cmpR op_ge (pv 5) (pe_op op_pow pe_int pe_int) (nomark _)) (pss_one (ps_for PassesOwn.never rfl (pi_range1 rfl T.z_range (pa_cons (pe_callB (cr_min2 rfl) (by rfl) T.z_min (by decide +kernel) (pa_cons pe_int (pa_cons (pe_op op_sub (pv 1) (pe_callB (k_lenS (K := K) rfl) (by rfl) T.z_len (by decide +kernel) (pa_cons (pv 2) pa_nil))) pa_nil))) pa_nil)) (pg_name (i := 6) sc_L_pool.nd rfl (Or.inl rfl))
      (pss_cons (ps_expr (k_bm (K := K) rfl PySem.F.plainAttrs_list PySem.F.slot_list_append PySem.F.type_list_append mt_append (pv 2) (pa_cons (pe_op op_mod (pe_callTy cr_int1 (by rfl) T.z_int (by decide +kernel) (pa_cons (pv 5) pa_nil)) pe_int) pa_nil)))
      (pss_cons (ps_set (i := 5) sc_L_pool.nd rfl (Or.inl rfl) (pe_op op_fdiv (pv 5) pe_int))
      (pss_one (ps_if (pt_cmpR (k_eqG (K := K) rfl hr.units) (pv 5) pe_int (nomark _)) (pss_one ps_break) pss_nil)))))) (pss_cons (ps_set (i := 7) sc_L_pool.nd rfl (Or.inl rfl) (pe_op op_mod (pe_callTy cr_int1 (by rfl) T.z_int (by decide +kernel) (pa_cons (pe_op (k_addG (K := K) rfl) (pe_op (k_addG (K := K) rfl) (pe_op op_mul (pv 4) pe_int) (pe_op op_mul (pe_callB (k_lenS (K := K) rfl) (by rfl) T.z_len (by decide +kernel) (pa_cons (pv 2) pa_nil)) pe_int)) pe_int) pa_nil)) pe_int))
      (pss_cons (ps_set (i := 8) sc_L_pool.nd rfl (Or.inl rfl) (pe_op op_mod (pe_callTy cr_int1 (by rfl) T.z_int (by decide +kernel) (pa_cons (pe_op (k_addG (K := K) rfl) (pe_op op_mul (pv 7) (pv 7)) pe_int) pa_nil)) pe_int))
      (pss_cons (ps_expr (k_bm (K := K) rfl PySem.F.plainAttrs_list PySem.F.slot_list_append PySem.F.type_list_append mt_append (pv 2) (pa_cons (pe_op op_mod (pe_callTy cr_int1 (by rfl) T.z_int (by decide +kernel) (pa_cons (pe_op op_fdiv (pv 8) pe_int) pa_nil)) pe_int) pa_nil)))
      (pss_one (ps_expr (k_bm (K := K) rfl PySem.F.plainAttrs_list PySem.F.slot_list_append PySem.F.type_list_append mt_append (pv 2) (pa_cons (pe_op op_mod (pe_op op_mod (pe_callTy cr_int1 (by rfl) T.z_int (by decide +kernel) (pa_cons (pe_op (k_addG (K := K) rfl) (pe_op op_mul (pv 8) pe_int) (pv 7)) pa_nil)) pe_int) pe_int) pa_nil))))))))
      (pss_one (ps_set (i := 3) sc_L_pool.nd rfl (Or.inl rfl) (pe_op op_mod (pe_callTy cr_int1 (by rfl) T.z_int (by decide +kernel) (pa_cons (pe_op (k_addG (K := K) rfl) (pe_op op_mul (pv 3) pe_int) (pv 4)) pa_nil)) pe_int))))))
      (pss_cons (ps_for PassesOwn.never rfl (pi_range1 rfl T.z_range (pa_cons (pv 1) pa_nil)) (pg_name (i := 6) sc_L_pool.nd rfl (Or.inl rfl))
      (pss_cons (ps_set (i := 3) sc_L_pool.nd rfl (Or.inl rfl) (pe_op op_mod (pe_callTy cr_int1 (by rfl) T.z_int (by decide +kernel) (pa_cons (pe_op (k_addG (K := K) rfl) (pe_op (k_addG (K := K) rfl) (pe_op op_mul (pv 3) pe_int) (pe_op op_mul (pv 6) pe_int)) pe_int) pa_nil)) pe_int))
      (pss_one (ps_expr (k_bm (K := K) rfl PySem.F.plainAttrs_list PySem.F.slot_list_append PySem.F.type_list_append mt_append (pv 2) (pa_cons (pe_op op_mod (pe_callTy cr_int1 (by rfl) T.z_int (by decide +kernel) (pa_cons (pe_op op_fdiv (pv 3) pe_int) pa_nil)) pe_int) pa_nil))))))
      (pss_cons (ps_set (i := 2) sc_L_pool.nd rfl (Or.inl rfl) (pe_slice (k_slG (K := K) rfl) (pv 2) po_none (po_some (pv 1))))
      (pss_cons (ps_expr (k_bm0 (K := K) rfl PySem.F.plainAttrs_list PySem.F.slot_list_reverse PySem.F.type_list_reverse mt_reverse (pv 2)))
      (pss_one (ps_ret (pv 2))))))))), ?_⟩
    refine go_start (σ' := [some (.ref a), some (.int n), none, none, none, none, none, none, none]) rfl ?_
    try dsimp only [cxOf, Cx.nox, Cx.wish]
    walk_at "go"
    refine ⟨Nat.zero_le _, fun p hp => ?_⟩
    have s1 := Same.new (o := .lst []) hp
    have e1 : (upd H p (.lst [])) p = some (.lst (([] : List Int).map V.int)) := upd_same
    generalize upd H p (.lst []) = H1 at s1 e1 ⊢
    have hS1 := s1.sq hS
    walk_at "go"
    refine l_seq (b := true) (cs.map V.int) (fun i σ H' => ∃ (tot : Int) (y4 y5 y6 y7 y8 : Option V) (ns : List Int), σ = [some (.ref a), some (.int n), some (.ref p), some (.int tot), y4, y5, y6, y7, y8] ∧ 0 ≤ tot ∧ tot < 1000003 ∧ ns.length ≤ 60 * i ∧ (∀ x ∈ ns, (0 : Int) ≤ x) ∧ Same H H' ∧ H' p = some (.lst (ns.map V.int))) hS1 ⟨1, none, none, none, none, none, [], rfl, by omega, by omega, Nat.zero_le _, List.forall_mem_nil _, s1, e1⟩ (fun i σ H' _ ⟨_, _, _, _, _, _, _, _, _, _, _, _, s, _⟩ => s.sq hS) ?_ ?_
    · rintro i x σ H2 hi hx ⟨tot, y4, y5, y6, y7, y8, ns, rfl, ht0, ht1, hnl, hnn, s2, e2⟩
      obtain ⟨rfl, hi1⟩ := vec_at hx
      generalize nth cs ((i : Nat) : Int) = c
      rw [List.length_map] at hi
      walk_at "go"
      refine w_cut (fun σ H' => ∃ (y5 y6 y7 y8 : Option V) (ns : List Int), σ = [some (.ref a), some (.int n), some (.ref p), some (.int tot), some (.int c), y5, y6, y7, y8] ∧ ns.length ≤ 60 * (i + 1) ∧ (∀ x ∈ ns, (0 : Int) ≤ x) ∧ Same H H' ∧ H' p = some (.lst (ns.map V.int))) ?_ ?_
      · walk_at "go"
        refine w_iteD (fun _ => ?_) (fun _ => ?_)
        · walk_at "go"
          have hmn : -(2 ^ 62) ≤ (if n - (ns.length : Int) < 60 then n - (ns.length : Int) else 60) ∧ (if n - (ns.length : Int) < 60 then n - (ns.length : Int) else 60) ≤ 60 := by
            have h : 60 * i ≤ 60 * 63 := Nat.mul_le_mul (Nat.le_refl _) (by omega)
            split <;> omega
          generalize (if n - (ns.length : Int) < 60 then n - (ns.length : Int) else 60) = mn at hmn ⊢
          refine l_range (fun j σ H' => ∃ (rest : Int) (y6 : Option V) (ms : List Int), σ = [some (.ref a), some (.int n), some (.ref p), some (.int tot), some (.int c), some (.int rest), y6, y7, y8] ∧ ms.length ≤ 60 * i + j ∧ (∀ x ∈ ms, (0 : Int) ≤ x) ∧ Same H H' ∧ H' p = some (.lst (ms.map V.int)))
            (by omega) (by omega) ⟨_, _, ns, rfl, by omega, hnn, s2, e2⟩ ?_ ?_
          · rintro j σ H3 hj ⟨rest, y6, ms, rfl, hml, hmm, s3, e3⟩
            have h : 60 * i ≤ 60 * 63 := Nat.mul_le_mul (Nat.le_refl _) (by omega)
            walk_at "go"
            refine w_append e3 (line_of1 (by rw [List.length_map]; omega)) ?_
            have e4 : (upd H3 p (.lst (ms.map V.int ++ [.int (rest % 2520)]))) p = some (.lst ((ms ++ [rest % 2520]).map V.int)) := by rw [upd_same, List.map_append]; rfl
            have s4 := Same.mut (o := .lst (ms.map V.int ++ [.int (rest % 2520)])) s3 hp
            have hmm4 : ∀ x ∈ ms ++ [rest % 2520], (0 : Int) ≤ x := fun x hx => by
              rcases List.mem_append.mp hx with h | h
              · exact hmm x h
              · rw [List.mem_singleton.mp h]; omega
            have hml4 : (ms ++ [rest % 2520]).length = ms.length + 1 := by rw [List.length_append]; rfl
            generalize upd H3 p (.lst (ms.map V.int ++ [.int (rest % 2520)])) = H4 at e4 s4 ⊢
            walk_at "go"
            refine w_iteD (fun _ => ?_) (fun _ => ?_)
            · walk_at "go"
              exact ⟨_, _, _, _, ms ++ [rest % 2520], rfl, by omega, hmm4, s4, e4⟩
            · walk_at "go"
              exact ⟨_, _, ms ++ [rest % 2520], rfl, by omega, hmm4, s4, e4⟩
          · rintro σ H3 ⟨rest, y6, ms, rfl, hml, hmm, s3, e3⟩
            walk_at "go"
            exact ⟨_, _, _, _, ms, rfl, by omega, hmm, s3, e3⟩
        · walk_at "go"
          have h : 60 * i ≤ 60 * 63 := Nat.mul_le_mul (Nat.le_refl _) (by omega)
          refine w_append e2 (line_of1 (by rw [List.length_map]; omega)) ?_
          generalize ((c * 48271 + (ns.length : Int) * 69621 + 11) % 2147483647 * ((c * 48271 + (ns.length : Int) * 69621 + 11) % 2147483647) + 5) % 2147483629 = sec
          have e4 : (upd H2 p (.lst (ns.map V.int ++ [.int (sec / 7 % 2520)]))) p = some (.lst ((ns ++ [sec / 7 % 2520]).map V.int)) := by rw [upd_same, List.map_append]; rfl
          have s4 := Same.mut (o := .lst (ns.map V.int ++ [.int (sec / 7 % 2520)])) s2 hp
          generalize upd H2 p (.lst (ns.map V.int ++ [.int (sec / 7 % 2520)])) = H4 at e4 s4 ⊢
          walk_at "go"
          refine w_append e4 (line_of1 (by rw [List.length_map, List.length_append]; show ns.length + 1 ≤ _; omega)) ?_
          walk_at "go"
          refine ⟨_, _, _, _, (ns ++ [sec / 7 % 2520]) ++ [_], rfl, by rw [List.length_append, List.length_append]; show ns.length + 1 + 1 ≤ _; omega, fun x hx => ?_, Same.mut s4 hp, by rw [upd_same, List.map_append (l₁ := ns ++ [sec / 7 % 2520])]; rfl⟩
          rcases List.mem_append.mp hx with h | h
          · rcases List.mem_append.mp h with h | h
            · exact hnn x h
            · rw [List.mem_singleton.mp h]; omega
          · rw [List.mem_singleton.mp h]; omega
      · rintro σ H3 ⟨y5, y6, y7, y8, ns, rfl, hnl, hnn, s3, e3⟩
        walk_at "go"
        exact ⟨_, _, _, _, _, _, ns, rfl, by omega, by omega, hnl, hnn, s3, e3⟩
    · rintro σ H2 ⟨tot, y4, y5, y6, y7, y8, ns, rfl, ht0, ht1, hnl, hnn, s2, e2⟩
      rw [List.length_map] at hnl
      walk_at "go"
      refine l_range (fun j σ H' => ∃ (tot : Int) (y6 : Option V) (ms : List Int), σ = [some (.ref a), some (.int n), some (.ref p), some (.int tot), y4, y5, y6, y7, y8] ∧ 0 ≤ tot ∧ tot < 2147483647 ∧ ms.length ≤ 4000 + j ∧ (∀ x ∈ ms, (0 : Int) ≤ x) ∧ Same H H' ∧ H' p = some (.lst (ms.map V.int)))
        (by omega) (by omega) ⟨_, _, ns, rfl, ht0, by omega, by omega, hnn, s2, e2⟩ ?_ ?_
      · rintro j σ H3 hj ⟨tot, y6, ms, rfl, h0, h1, hml, hmm, s3, e3⟩
        walk_at "go"
        refine w_append e3 (line_of1 (by rw [List.length_map]; omega)) ?_
        walk_at "go"
        refine ⟨_, _, ms ++ [_], rfl, by omega, by omega, by rw [List.length_append]; show ms.length + 1 ≤ _; omega, fun x hx => ?_, Same.mut s3 hp, by rw [upd_same, List.map_append]; rfl⟩
        rcases List.mem_append.mp hx with h | h
        · exact hmm x h
        · rw [List.mem_singleton.mp h]; omega
      · rintro σ H3 ⟨tot, y6, ms, rfl, h0, h1, hml, hmm, s3, e3⟩
        walk_at "go"
        refine w_slTo (ns := ms) (Sq.lst e3) hn0 fun q hq => ?_
        have s4 := s3.trans (Same.new (o := .lst ((ms.take n.toNat).map V.int)) hq)
        walk_at "go"
        refine w_bm0 ?_
        walk_at "go"
        refine w_reverse upd_same ?_
        walk_at "go"
        have hq0 : H q = none := by
          cases e : H q with
          | none => rfl
          | some u => rw [s3 _ _ e] at hq; cases hq
        exact k q _ hq0 (Same.mut s4 hq0) ⟨_, upd_same, fun x hx => hmm x (List.mem_of_mem_take (List.mem_reverse.mp hx))⟩

/-! ### _law_same of houses' laws: True of the same data of the same kinds -/
def SmC (K : PySem.W.Frag) (H : Hp) : Nat → V → V → Prop
  | 0, x, y => x = y ∧ (x = .non ∨ (∃ b, x = .bl b) ∨ (∃ i, x = .int i) ∨ ∃ s, x = .str s)
  | n + 1, x, y => (x = y ∧ (x = .non ∨ (∃ b, x = .bl b) ∨ (∃ i, x = .int i) ∨ ∃ s, x = .str s)) ∨
    ∃ (a a' : Addr) (k : Bool) (xs ys : List V), x = .ref a ∧ y = .ref a' ∧ Sq k K H a xs ∧ Sq k K H a' ys ∧ xs.length = ys.length ∧ ys.length ≤ 100000 ∧ ∀ (i : Nat) x' y', xs[i]? = some x' → ys[i]? = some y' → SmC K H n x' y'
theorem SmC.int {K : PySem.W.Frag} {H : Hp} {n : Nat} {i : Int} : SmC K H n (.int i) (.int i) := by
  cases n
  · exact ⟨rfl, .inr (.inr (.inl ⟨i, rfl⟩))⟩
  · exact .inl ⟨rfl, .inr (.inr (.inl ⟨i, rfl⟩))⟩
theorem SmC.same {K : PySem.W.Frag} {H H' : Hp} (e : Same H H') : ∀ {n : Nat} {x y : V}, SmC K H n x y → SmC K H' n x y
  | 0, _, _, h => h
  | n + 1, _, _, .inl h => .inl h
  | n + 1, _, _, .inr ⟨a, a', k, xs, ys, h1, h2, h3, h4, h5, hz, h6⟩ => .inr ⟨a, a', k, xs, ys, h1, h2, e.sq h3, e.sq h4, h5, hz, fun i x' y' e1 e2 => SmC.same e (h6 i x' y' e1 e2)⟩
theorem SmC.vec {K : PySem.W.Frag} {H : Hp} {n : Nat} {x y : V} {ns : List Int} (hz : ns.length ≤ 100000) (h1 : RVec false K H x ns) (h2 : RVec false K H y ns) : SmC K H (n + 1) x y := by
  obtain ⟨a, rfl, hx⟩ := h1
  obtain ⟨a', rfl, hy⟩ := h2
  refine .inr ⟨a, a', false, _, _, rfl, rfl, hx, hy, rfl, by rw [List.length_map]; exact hz, fun i x' y' e1 e2 => ?_⟩
  rw [(vec_at e1).1, (vec_at e2).1]
  exact SmC.int
theorem SmC.seq {K : PySem.W.Frag} {H : Hp} {α : Type} {R S : Rep α} {n : Nat} {x y : V} {ds : List α} (hz : ds.length ≤ 100000) (hRS : ∀ x y d, d ∈ ds → R H x d → S H y d → SmC K H n x y) (h1 : RSeq false K R H x ds) (h2 : RSeq false K S H y ds) : SmC K H (n + 1) x y := by
  obtain ⟨a, xs, rfl, hx, hxl, hxr⟩ := h1
  obtain ⟨a', ys, rfl, hy, hyl, hyr⟩ := h2
  refine .inr ⟨a, a', false, xs, ys, rfl, rfl, hx, hy, by omega, by omega, fun i x' y' e1 e2 => ?_⟩
  have hi := (List.getElem?_eq_some_iff.mp e1).1
  have hd : ds[i]? = some (ds[i]'(by omega)) := List.getElem?_eq_getElem (by omega)
  exact hRS _ _ _ (List.mem_of_getElem? hd) (hxr i _ _ e1 hd) (hyr i _ _ e2 hd)
def sp_L_same (K : PySem.W.Frag) (n : Nat) : Sp := fun vs H Q _ => ∃ x y : V, vs = [x, y] ∧ SmC K H n x y ∧ ∀ H', Same H H' → Q (.bl true) H'
theorem same_step (T : Txt K mg) {n k : Nat} (G : FnOk P w K mg base CX0 k T.a_L_same T.d_L_same ["_law_told", "_law_due"] (fun vs H Q E => ∃ m, n = m + 1 ∧ sp_L_same K m vs H Q E)) :
    FnOk P w K mg base CX0 (k + 1) T.a_L_same T.d_L_same ["_law_told", "_law_due"] (sp_L_same K n) := by
  refine T.F_L_same.ok sc_L_same (fun vs H Q E h => ?_) (fun cdv A outer s H vs Q E hr h => ?_)
  · obtain ⟨_, _, rfl, _⟩ := h
    rfl
  · obtain ⟨x, y, rfl, hS, q⟩ := h
    refine ⟨_, (pss_cons (ps_if (k_tru (K := K) rfl (pe_callB (k_isiT (K := K) rfl) (by rfl) T.z_isinstance (by decide +kernel) (pa_cons (pv 1) (pa_cons (pe_tup (pa_cons (pe_bltn (v := .ty "tuple") (by rfl) T.z_tuple (by decide +kernel) rfl) (pa_cons (pe_bltn (v := .ty "list") (by rfl) T.z_list (by decide +kernel) rfl) pa_nil))) pa_nil))) (by intro _; rfl)) (pss_cons (ps_if (PW.pt (pw_or (pt_not (k_tru (K := K) rfl (pe_callB (k_isiT (K := K) rfl) (by rfl) T.z_isinstance (by decide +kernel) (pa_cons (pv 0) (pa_cons (pe_tup (pa_cons (pe_bltn (v := .ty "tuple") (by rfl) T.z_tuple (by decide +kernel) rfl) (pa_cons (pe_bltn (v := .ty "list") (by rfl) T.z_list (by decide +kernel) rfl) pa_nil))) pa_nil))) (by intro _; rfl))) (pw_or1 (pt_cmpR (k_neG (K := K) rfl hr.units) (pe_callB (k_isi (K := K) rfl) (by rfl) T.z_isinstance (by decide +kernel) (pa_cons (pv 0) (pa_cons (pe_bltn (v := .ty "list") (by rfl) T.z_list (by decide +kernel) rfl) pa_nil))) (pe_callB (k_isi (K := K) rfl) (by rfl) T.z_isinstance (by decide +kernel) (pa_cons (pv 1) (pa_cons (pe_bltn (v := .ty "list") (by rfl) T.z_list (by decide +kernel) rfl) pa_nil))) (nomark _))))) (pss_one (ps_ret pe_bl)) pss_nil)
      (pss_cons (ps_if (pt_cmpR (k_neG (K := K) rfl hr.units) (pe_callB (k_lenS (K := K) rfl) (by rfl) T.z_len (by decide +kernel) (pa_cons (pv 0) pa_nil)) (pe_callB (k_lenS (K := K) rfl) (by rfl) T.z_len (by decide +kernel) (pa_cons (pv 1) pa_nil)) (nomark _)) (pss_one (ps_ret pe_bl)) pss_nil)
      (pss_cons (ps_for PassesOwn.never rfl (pi_range1 rfl T.z_range (pa_cons (pe_callB (k_lenS (K := K) rfl) (by rfl) T.z_len (by decide +kernel) (pa_cons (pv 1) pa_nil)) pa_nil)) (pg_name (i := 2) sc_L_same.nd rfl (Or.inl rfl))
      (pss_one (ps_if (pt_not (k_tru (K := K) rfl (pe_call G hr (by rfl) T.g_L_same T.F_L_same.kp T.b_L_same .nil pass0 (pa_cons (pe_ix (k_ix (K := K) rfl) (pv 0) (pv 2) (fun _ _ => rfl)) (pa_cons (pe_ix (k_ix (K := K) rfl) (pv 1) (pv 2) (fun _ _ => rfl)) pa_nil))) (by intro _; rfl))) (pss_one (ps_ret pe_bl)) pss_nil)))
      (pss_one (ps_ret pe_bl))))) pss_nil)
      (pss_cons (ps_if (pt_cmpR op_isNN (pv 1) pe_non (nomark _)) (pss_one (ps_ret (pe_cmpR op_isNN (pv 0) pe_non (nomark _)))) pss_nil)
      (pss_cons (ps_if (k_tru (K := K) rfl (pe_callB (k_isi (K := K) rfl) (by rfl) T.z_isinstance (by decide +kernel) (pa_cons (pv 1) (pa_cons (pe_bltn (v := .ty "bool") (by rfl) T.z_bool (by decide +kernel) rfl) pa_nil))) (by intro _; rfl)) (pss_one (ps_ret (pe_and (pe_callB (k_isi (K := K) rfl) (by rfl) T.z_isinstance (by decide +kernel) (pa_cons (pv 0) (pa_cons (pe_bltn (v := .ty "bool") (by rfl) T.z_bool (by decide +kernel) rfl) pa_nil))) (pe_one (pe_cmpR (k_eqG (K := K) rfl hr.units) (pv 0) (pv 1) (nomark _)))))) pss_nil)
      (pss_cons (ps_if (k_tru (K := K) rfl (pe_callB (k_isi (K := K) rfl) (by rfl) T.z_isinstance (by decide +kernel) (pa_cons (pv 1) (pa_cons (pe_bltn (v := .ty "str") (by rfl) T.z_str (by decide +kernel) rfl) pa_nil))) (by intro _; rfl)) (pss_one (ps_ret (pe_and (pe_callB (k_isi (K := K) rfl) (by rfl) T.z_isinstance (by decide +kernel) (pa_cons (pv 0) (pa_cons (pe_bltn (v := .ty "str") (by rfl) T.z_str (by decide +kernel) rfl) pa_nil))) (pe_one (pe_cmpR (k_eqG (K := K) rfl hr.units) (pv 0) (pv 1) (nomark _)))))) pss_nil)
      (pss_one (ps_ret (pe_and (pe_callB (k_isi (K := K) rfl) (by rfl) T.z_isinstance (by decide +kernel) (pa_cons (pv 0) (pa_cons (pe_bltn (v := .ty "int") (by rfl) T.z_int (by decide +kernel) rfl) pa_nil))) (pe_and (pe_not (pe_callB (k_isi (K := K) rfl) (by rfl) T.z_isinstance (by decide +kernel) (pa_cons (pv 0) (pa_cons (pe_bltn (v := .ty "bool") (by rfl) T.z_bool (by decide +kernel) rfl) pa_nil)))) (pe_one (pe_cmpR (k_eqG (K := K) rfl hr.units) (pv 0) (pv 1) (nomark _))))))))))), ?_⟩
    refine go_start (σ' := [some x, some y, none]) rfl ?_
    try dsimp only [cxOf, Cx.nox, Cx.wish]
    have hflat : (x = y ∧ (x = .non ∨ (∃ b, x = .bl b) ∨ (∃ i, x = .int i) ∨ ∃ s, x = .str s)) ∨
        ∃ (m : Nat) (a a' : Addr) (k : Bool) (xs ys : List V), n = m + 1 ∧ x = .ref a ∧ y = .ref a' ∧ Sq k K H a xs ∧ Sq k K H a' ys ∧ xs.length = ys.length ∧ ys.length ≤ 100000 ∧ ∀ (i : Nat) x' y', xs[i]? = some x' → ys[i]? = some y' → SmC K H m x' y' := by
      cases n with
      | zero => exact .inl hS
      | succ m =>
        rcases hS with h | ⟨a, a', k, xs, ys, h1, h2, h3, h4, h5, hz, h6⟩
        · exact .inl h
        · exact .inr ⟨m, a, a', k, xs, ys, rfl, h1, h2, h3, h4, h5, hz, h6⟩
    rcases hflat with ⟨rfl, rfl | ⟨b, rfl⟩ | ⟨i, rfl⟩ | ⟨z, rfl⟩⟩ | ⟨m, a, a', kd, xs, ys, rfl, rfl, rfl, hx, hy, hl, hz, hxy⟩
    · walk_at "GO"
      rename_i p H1 hp s1 e1
      refine w_isi2 (b := false) rfl e1 (tn := "NoneType") (b1 := false) (b2 := false) (.base .non) (by decide +kernel) (by decide +kernel) ?_
      walk_at "GO"
      exact q H1 s1
    · walk_at "GO"
      rename_i p H1 hp s1 e1
      refine w_isi2 (b := false) rfl e1 (tn := "bool") (b1 := false) (b2 := false) (.base (.bl _)) (by decide +kernel) (by decide +kernel) ?_
      walk_at "GO"
      refine w_isi (tn := "bool") (b := true) (.base (.bl _)) (by decide +kernel) ?_
      walk_at "GO"
      refine w_isi (tn := "bool") (b := true) (.base (.bl _)) (by decide +kernel) ?_
      walk_at "GO"
      refine w_eqS rfl ?_
      rw [decide_eq_true rfl]
      exact q H1 s1
    · walk_at "GO"
      rename_i p H1 hp s1 e1
      refine w_isi2 (b := false) rfl e1 (tn := "int") (b1 := false) (b2 := false) (.base (.int _)) (by decide +kernel) (by decide +kernel) ?_
      walk_at "GO"
      refine w_isi (tn := "int") (b := false) (.base (.int _)) (by decide +kernel) ?_
      walk_at "GO"
      refine w_isi (tn := "int") (b := false) (.base (.int _)) (by decide +kernel) ?_
      walk_at "GO"
      refine w_isi (tn := "int") (b := true) (.base (.int _)) (by decide +kernel) ?_
      walk_at "GO"
      refine w_isi (tn := "int") (b := false) (.base (.int _)) (by decide +kernel) ?_
      walk_at "GO"
      rw [decide_eq_true rfl]
      exact q H1 s1
    · walk_at "GO"
      rename_i p H1 hp s1 e1
      refine w_isi2 (b := false) rfl e1 (tn := "str") (b1 := false) (b2 := false) (.base (.str _)) (by decide +kernel) (by decide +kernel) ?_
      walk_at "GO"
      refine w_isi (tn := "str") (b := false) (.base (.str _)) (by decide +kernel) ?_
      walk_at "GO"
      refine w_isi (tn := "str") (b := true) (.base (.str _)) (by decide +kernel) ?_
      walk_at "GO"
      refine w_isi (tn := "str") (b := true) (.base (.str _)) (by decide +kernel) ?_
      walk_at "GO"
      exact q H1 s1
    · have tyx : ∀ {H' : Hp} {c : Addr} {zs : List V}, Sq kd K H' c zs → TyX K H' (.ref c) (.type (if kd then "list" else "tuple")) := fun h => by
        cases kd with
        | true => exact tyx_lst h
        | false => exact tyx_tup h
      walk_at "GO"
      rename_i p H1 hp s1 e1
      refine w_isi2 (b := true) (by cases kd <;> rfl) e1 (b1 := !kd) (b2 := kd) (tyx (s1.sq hy)) (by cases kd <;> decide +kernel) (by cases kd <;> decide +kernel) ?_
      walk_at "GO"
      rename_i p2 H2 hp2 s2 e2
      have s12 := s1.trans s2
      refine w_isi2 (b := true) (by cases kd <;> rfl) e2 (b1 := !kd) (b2 := kd) (tyx (s12.sq hx)) (by cases kd <;> decide +kernel) (by cases kd <;> decide +kernel) ?_
      walk_at "GO"
      refine w_isi (b := kd) (tyx (s12.sq hx)) (by cases kd <;> decide +kernel) ?_
      walk_at "GO"
      refine w_isi (b := kd) (tyx (s12.sq hy)) (by cases kd <;> decide +kernel) ?_
      walk_at "GO"
      have hx2 := s12.sq hx
      have hy2 := s12.sq hy
      walk_at "GO"
      refine w_iteN (fun hc => absurd (show ((xs.length : Nat) : Int) = ys.length by rw [hl]) hc) (fun _ => ?_)
      walk_at "GO"
      refine l_range (fun i σ H' => ∃ y2, σ = [some (.ref a), some (.ref a'), y2] ∧ Same H H') (by omega) (by omega) ⟨none, rfl, s12⟩ ?_ ?_
      · rintro i σ H' hi ⟨y2, rfl, sm⟩
        have hi2 : i < ys.length := by omega
        have ex : xs[i]? = some (xs[i]'(by omega)) := List.getElem?_eq_getElem (by omega)
        have ey : ys[i]? = some (ys[i]'hi2) := List.getElem?_eq_getElem hi2
        walk_at "GO"
        refine w_ix (sm.sq hx) (atI_nat ex) ?_
        walk_at "GO"
        refine w_ix (sm.sq hy) (atI_nat ey) ?_
        walk_at "GO"
        refine ⟨m, rfl, _, _, rfl, SmC.same sm (hxy i _ _ ex ey), fun H3 s3 => ?_⟩
        walk_at "GO"
        exact ⟨_, rfl, sm.trans s3⟩
      · rintro σ H' ⟨y2, rfl, sm⟩
        walk_at "GO"
        exact q H' sm
theorem ok_L_same_at (T : Txt K mg) : ∀ n : Nat, FnOk P w K mg base CX0 (n + 1) T.a_L_same T.d_L_same ["_law_told", "_law_due"] (sp_L_same K n)
  | 0 => same_step T (k := 0) ⟨fun vs H Q E h => by obtain ⟨m, e, _⟩ := h; exact absurd e (by omega), fun A outer s H args us vs Q E hr he hb hv h => by obtain ⟨m, e, _⟩ := h; exact absurd e (by omega)⟩
  | n + 1 => same_step T ((ok_L_same_at T n).imp fun vs H Q E h => by
      obtain ⟨m, e, h⟩ := h
      have e2 : m = n := by omega
      subst e2
      exact h)

/-! ### nets drawn from a pool -/
theorem IsPool.same {H H' : Hp} {p : Addr} (s : Same H H') (h : IsPool H p) : IsPool H' p := by
  obtain ⟨ns, h1, h2⟩ := h
  exact ⟨ns, s _ _ h1, h2⟩
theorem IsPool.ne {H : Hp} {p D : Addr} (h : IsPool H p) (hD : H D = none) : D ≠ p := fun e => by
  obtain ⟨ns, h1, _⟩ := h
  rw [e, h1] at hD
  cases hD
theorem IsPool.nt {H : Hp} {p : Addr} (h : IsPool H p) : NTup (H p) := by
  obtain ⟨ns, h1, _⟩ := h
  exact NTup.lst h1
theorem IsPool.upd {H : Hp} {p D : Addr} {o : HO} (h : IsPool H p) (n : D ≠ p) : IsPool (L2.upd H D o) p := by
  obtain ⟨ns, h1, h2⟩ := h
  exact ⟨ns, (upd_ne (Ne.symm n)).trans h1, h2⟩
theorem _root_.L2.Fr.mut {t D : Addr} {H H' : Hp} {o : HO} (f : Fr t H H') (hD : H D = none) : Fr t H (L2.upd H' D o) := fun b u n e => by
  rw [upd_ne (ne_of_none e hD)]
  exact f b u n e
theorem RMat.nt {K : PySem.W.Frag} : RTup (RMat K) := RMat.tup
section
variable {K : PySem.W.Frag} {σ : L2.St} {H : Hp} {te : TE} {vs : List Nat} {Q : VK} {j : Nat}
/-- a comprehension over range(n) that draws -/
theorem c_poolR {α : Type} {R : Rep α} {n : Int} {p : Addr} (P : α → Prop) (hm : RMono R) (ht : RTup R) (hp : IsPool H p) (h1 : -(2 ^ 62) ≤ n) (h2 : n < 16000000) (hw : ∀ x : V, wipe ((wipe σ vs).set j (some x)) vs = wipe σ vs)
    (hs : ∀ (i : Nat) H1 (N : VK), (i : Int) < n → Fr p H H1 → IsPool H1 p → (∀ y (d : α) H4, Fr p H1 H4 → IsPool H4 p → R H4 y d → P d → N y H4) → te ((wipe σ vs).set j (some (.int (i : Int)))) H1 N)
    (k : ∀ D H' ys (ds : List α), H D = none → Fr p H H' → IsPool H' p → H' D = some (.lst ys) → ys.length = n.toNat → ds.length = n.toNat → (∀ (i : Nat) y d, ys[i]? = some y → ds[i]? = some d → R H' y d) → (∀ d ∈ ds, P d) → Q (.ref D) H') :
    ∃ j' : Int, [V.int n] = [.int j'] ∧ -(2 ^ 62) ≤ j' ∧ j' < 2 ^ 62 ∧ CompOk (Itr 0 j'.toNat) (gName j) tYes te vs σ H Q := by
  refine l_compGR h1 h2 (fun D i acc H' => acc.length = i ∧ H' D = some (.lst acc) ∧ ∃ ds : List α, ds.length = i ∧ Fr p H H' ∧ IsPool H' p ∧ (∀ (i : Nat) y d, acc[i]? = some y → ds[i]? = some d → R H' y d) ∧ ∀ d ∈ ds, P d) hw
    (fun D hD => ⟨rfl, upd_same, [], rfl, Fr.same (Same.new hD), hp.upd (hp.ne hD), fun i y d h _ => by simp at h, List.forall_mem_nil _⟩)
    (fun i H1 D acc NT NF hi hD ⟨hl, hD1, ds, hdl, f1, hp1, hr, hP⟩ e1 _ hT hF => ?_) (fun D H' ys hD ⟨hl, hD1, ds, hdl, f1, hp1, hr, hP⟩ e1 _ => k D H' ys ds hD f1 hp1 e1 hl hdl hr hP)
  have hDp := hp.ne hD
  show te _ H1 NT
  refine hs i H1 NT hi f1 hp1 fun y d H4 f4 hp4 r4 p4 => ?_
  have e4 := f4 _ _ hDp e1
  refine hT y H4 e4 ⟨by rw [List.length_append, hl]; rfl, upd_same, ds ++ [d], by rw [List.length_append, hdl]; rfl, (f1.trans f4).mut hD, hp4.upd hDp, fun i' y' d' h1 h2 => ?_, fun d' hd => ?_⟩
  · refine RTup.upd ht hm (NTup.lst e4) ?_
    by_cases hj : i' < i
    · rw [List.getElem?_append_left (by omega)] at h1 h2
      exact Fr.rep hm ht f4 hp1.nt (hr i' y' d' h1 h2)
    · have hj1 := (List.getElem?_eq_some_iff.mp h1).1
      rw [List.length_append] at hj1
      have ej : i' = i := by
        have : i' < acc.length + 1 := hj1
        omega
      subst ej
      rw [List.getElem?_append_right (by omega), hl, Nat.sub_self] at h1
      rw [List.getElem?_append_right (by omega), hdl, Nat.sub_self] at h2
      cases h1
      cases h2
      exact r4
  · rcases List.mem_append.mp hd with h | h
    · exact hP d' h
    · rw [List.mem_singleton.mp h]; exact p4
end
def sp_L_vectors (K : PySem.W.Frag) : Sp := fun vs H Q _ => ∃ (p : Addr) (pr many wd : Int), vs = [.ref p, .int pr, .int many, .int wd] ∧ IsPool H p ∧ 0 < pr ∧ 0 ≤ many ∧ many ≤ 1000 ∧ 0 ≤ wd ∧ wd ≤ 1000 ∧
  ∀ v' H' (M : Mat), Fr p H H' → IsPool H' p → RMat K H' v' M → M.length = many.toNat → MatOk pr wd.toNat M → Q v' H'
theorem ok_L_vectors (T : Txt K mg) : FnOk P w K mg base CX0 2 T.a_L_vectors T.d_L_vectors ["_law_pool_here", "_law_prime", "_law_many", "_law_width"] (sp_L_vectors K) := by
  refine T.F_L_vectors.ok sc_L_vectors (fun vs H Q E h => ?_) (fun cdv A outer s H vs Q E hr h => ?_)
  · obtain ⟨_, _, _, _, rfl, _⟩ := h
    rfl
  · obtain ⟨p, pr, many, wd, rfl, hP, hp0, m0, m1, w0, w1, k⟩ := h
    refine ⟨_, (pss_one (ps_ret (pe_callTy (k_tupS (K := K) rfl) (by rfl) T.z_tuple (by decide +kernel) (pa_cons (pe_lc (own := [("_law_j", 4)]) (g := gName 4) (tt := tYes) rfl sc_L_vectors.nd (pi_range1 rfl T.z_range (pa_cons (pv 2) pa_nil)) (blkOk_by (own := [("_law_j", 4)]) (by kernel_rfl)) (fun _ _ _ _ _ => (pg_name (i := 4) sc_L_vectors.nd rfl (by first | exact Or.inl rfl | exact Or.inr rfl))) (fun _ _ _ _ _ => pts_nil) (fun _ _ _ _ _ => (pe_callTy (k_tupS (K := K) rfl) (by rfl) T.z_tuple (by decide +kernel) (pa_cons (pe_lc (own := [("_law_k", 5)]) (g := gName 5) (tt := tYes) rfl sc_L_vectors.nd (pi_range1 rfl T.z_range (pa_cons (pv 3) pa_nil)) (blkOk_by (own := [("_law_k", 5)]) (by kernel_rfl)) (fun _ _ _ _ _ => (pg_name (i := 5) sc_L_vectors.nd rfl (by first | exact Or.inl rfl | exact Or.inr rfl))) (fun _ _ _ _ _ => pts_nil) (fun _ _ _ _ _ => (pe_op op_mod (pe_callTy cr_int1 (by rfl) T.z_int (by decide +kernel) (pa_cons (pe_call (ok_L_draw T) (hr.mono (by decide)) (by rfl) T.g_L_draw T.F_L_draw.kp T.b_L_draw .nil pass0 (pa_cons (pv 0) (pa_cons pe_int pa_nil))) pa_nil)) (pv 1)))) pa_nil)))) pa_nil)))), ?_⟩
    refine go_start (σ' := [some (.ref p), some (.int pr), some (.int many), some (.int wd), none, none]) rfl ?_
    try dsimp only [cxOf, Cx.nox, Cx.wish]
    walk_at "GO"
    refine c_poolR (R := RVec false K) (fun r => r.length = wd.toNat ∧ Sml pr r) RVec.mono RVec.tup hP (by omega) (by omega) (fun _ => rfl) (fun i H1 N hi f1 hP1 hN => ?_) (fun D H' ys ds hD f hP' e hyl hdl hr hQ => ?_)
    · walk_at "GO"
      refine c_poolR (R := RInt) (fun x => 0 ≤ x ∧ x < pr) RInt.mono RInt.tup hP1 (by omega) (by omega) (fun _ => rfl) (fun i H2 N2 hi f2 hP2 hN2 => ?_) (fun D H' ys ds hD f hP' e hyl hdl hr hQ => ?_)
      · walk_at "GO"
        refine ⟨p, 2520, rfl, hP2, by omega, fun r H3 r0 r1 f3 hP3 => ?_⟩
        walk_at "GO"
        exact hN2 _ _ _ f3 hP3 rfl ⟨Int.emod_nonneg _ (by omega), Int.emod_lt_of_pos _ hp0⟩
      · have ey : ys = ds.map V.int := vec_of (by omega) fun i y h => by
          have hi := (List.getElem?_eq_some_iff.mp h).1
          have hd : ds[i]? = some (ds[i]'(by omega)) := List.getElem?_eq_getElem (by omega)
          have h3 : y = .int _ := hr i y _ h hd
          rw [h3, nth_nat, List.getD_eq_getElem?_getD, hd]
          rfl
        subst ey
        walk_at "GO"
        rename_i t HT ht st et
        exact hN _ _ _ (f.trans (Fr.same st)) (hP'.same st) ⟨t, rfl, Sq.tup et⟩ ⟨hdl, hQ⟩
    · walk_at "GO"
      rename_i t HT ht st et
      exact k _ _ ds (f.trans (Fr.same st)) (hP'.same st) ⟨t, ys, rfl, Sq.tup et, by omega, fun i y d h1 h2 => RVec.mono _ _ _ _ st (hr i y d h1 h2)⟩ hdl hQ

theorem _root_.L2.Fr.none {p D : Addr} {H H' : Hp} (f : Fr p H H') (n : D ≠ p) (h : H' D = none) : H D = none := by
  cases e : H D with
  | none => rfl
  | some o => rw [f D o n e] at h; cases h
def RNetE (K : PySem.W.Frag) (e : V) : Rep NetD := fun H v nd => ∃ a v1 v2 v3 v4, v = .ref a ∧ Sq false K H a [.int nd.p, v1, v2, v3, v4, e] ∧ RMat K H v1 nd.emb ∧ RVec false K H v2 nd.sh ∧ RSeq false K (RSeq false K (RMat K)) H v3 nd.lay ∧ RMat K H v4 nd.out
theorem RNetE.mono {K : PySem.W.Frag} {e : V} : RMono (RNetE K e) := fun _ _ _ _ s ⟨a, v1, v2, v3, v4, e, h, h1, h2, h3, h4⟩ => ⟨a, v1, v2, v3, v4, e, s.sq h, RMat.mono _ _ _ _ s h1, RVec.mono _ _ _ _ s h2, RSeq.mono (RSeq.mono RMat.mono) _ _ _ _ s h3, RMat.mono _ _ _ _ s h4⟩
theorem RNetE.tup {K : PySem.W.Frag} {e : V} : RTup (RNetE K e) := fun _ _ _ _ s ⟨a, v1, v2, v3, v4, e, h, h1, h2, h3, h4⟩ => ⟨a, v1, v2, v3, v4, e, sq_hide s h, RMat.tup _ _ _ _ s h1, RVec.tup _ _ _ _ s h2, RSeq.tup (RSeq.tup RMat.tup) _ _ _ _ s h3, RMat.tup _ _ _ _ s h4⟩
/-- the end of a net: none, or a letter -/
def IsEnd (nd : NetD) (e : V) : Prop := e = .non ∨ ∃ l : Nat, e = .int (l : Nat) ∧ l < nd.emb.length
def sp_L_net (K : PySem.W.Frag) : Sp := fun vs H Q _ => ∃ (p : Addr), vs = [.ref p] ∧ IsPool H p ∧
  ∀ v' H' (nd : NetD) (e : V) (w : Nat), Fr p H H' → IsPool H' p → RNetE K e H' v' nd → NetOk nd w → 1 ≤ w → nd.p ∈ primes → 1 ≤ nd.emb.length → nd.out.length = nd.emb.length → IsEnd nd e → Q v' H'
theorem ok_L_net (T : Txt K mg) : FnOk P w K mg base CX0 3 T.a_L_net T.d_L_net ["_law_pool_here"] (sp_L_net K) := by
  refine T.F_L_net.ok sc_L_net (fun vs H Q E h => ?_) (fun cdv A outer s H vs Q E hr h => ?_)
  · obtain ⟨_, rfl, _⟩ := h
    rfl
  · obtain ⟨p, rfl, hP, k⟩ := h
    refine ⟨_, (pss_cons (ps_set (i := 1) sc_L_net.nd rfl (Or.inr rfl) (pe_ix (k_ix (K := K) rfl) (pe_lst (pa_cons pe_int (pa_cons pe_int (pa_cons pe_int (pa_cons pe_int (pa_cons pe_int (pa_cons pe_int (pa_cons pe_int (pa_cons pe_int pa_nil))))))))) (pe_call (ok_L_draw T) (hr.mono (by decide)) (by rfl) T.g_L_draw T.F_L_draw.kp T.b_L_draw .nil pass0 (pa_cons (pv 0) (pa_cons pe_int pa_nil))) (fun _ _ => rfl)))
      (pss_cons (ps_set (i := 2) sc_L_net.nd rfl (Or.inl rfl) (pe_ix (k_ix (K := K) rfl) (pe_lst (pa_cons pe_int (pa_cons pe_int (pa_cons pe_int (pa_cons pe_int (pa_cons pe_int (pa_cons pe_int (pa_cons pe_int (pa_cons pe_int pa_nil))))))))) (pe_call (ok_L_draw T) (hr.mono (by decide)) (by rfl) T.g_L_draw T.F_L_draw.kp T.b_L_draw .nil pass0 (pa_cons (pv 0) (pa_cons pe_int pa_nil))) (fun _ _ => rfl)))
      (pss_cons (ps_set (i := 3) sc_L_net.nd rfl (Or.inr rfl) (pe_ix (k_ix (K := K) rfl) (pe_lst (pa_cons pe_int (pa_cons pe_int (pa_cons pe_int (pa_cons pe_int (pa_cons pe_int (pa_cons pe_int (pa_cons pe_int (pa_cons pe_int (pa_cons pe_int (pa_cons pe_int pa_nil))))))))))) (pe_call (ok_L_draw T) (hr.mono (by decide)) (by rfl) T.g_L_draw T.F_L_draw.kp T.b_L_draw .nil pass0 (pa_cons (pv 0) (pa_cons pe_int pa_nil))) (fun _ _ => rfl)))
      (pss_cons (ps_set (i := 4) sc_L_net.nd rfl (Or.inl rfl) (pe_lst pa_nil))
      (pss_cons (ps_for PassesOwn.never rfl (pi_range1 rfl T.z_range (pa_cons (pe_ix (k_ix (K := K) rfl) (pe_lst (pa_cons pe_int (pa_cons pe_int (pa_cons pe_int (pa_cons pe_int (pa_cons pe_int (pa_cons pe_int (pa_cons pe_int (pa_cons pe_int pa_nil))))))))) (pe_call (ok_L_draw T) (hr.mono (by decide)) (by rfl) T.g_L_draw T.F_L_draw.kp T.b_L_draw .nil pass0 (pa_cons (pv 0) (pa_cons pe_int pa_nil))) (fun _ _ => rfl)) pa_nil)) (pg_name (i := 5) sc_L_net.nd rfl (Or.inl rfl))
      (pss_one (ps_expr (k_bm (K := K) rfl PySem.F.plainAttrs_list PySem.F.slot_list_append PySem.F.type_list_append mt_append (pv 4) (pa_cons (pe_callTy (k_tupS (K := K) rfl) (by rfl) T.z_tuple (by decide +kernel) (pa_cons (pe_lc (own := [("_law_j", 10)]) (g := gName 10) (tt := tYes) rfl sc_L_net.nd (pi_range1 rfl T.z_range (pa_cons pe_int pa_nil)) (blkOk_by (own := [("_law_j", 10)]) (by kernel_rfl)) (fun _ _ _ _ _ => (pg_name (i := 10) sc_L_net.nd rfl (by first | exact Or.inl rfl | exact Or.inr rfl))) (fun _ _ _ _ _ => pts_nil) (fun _ _ _ _ _ => (pe_call (ok_L_vectors T) (hr.mono (by decide)) (by rfl) T.g_L_vectors T.F_L_vectors.kp T.b_L_vectors .nil pass0 (pa_cons (pv 0) (pa_cons (pv 1) (pa_cons (pv 3) (pa_cons (pv 3) pa_nil))))))) pa_nil)) pa_nil)))))
      (pss_cons (ps_set (i := 6) sc_L_net.nd rfl (Or.inl rfl) (pe_call (ok_L_vectors T) (hr.mono (by decide)) (by rfl) T.g_L_vectors T.F_L_vectors.kp T.b_L_vectors .nil pass0 (pa_cons (pv 0) (pa_cons (pv 1) (pa_cons (pv 2) (pa_cons (pv 3) pa_nil))))))
      (pss_cons (ps_set (i := 7) sc_L_net.nd rfl (Or.inl rfl) (pe_ix (k_ix (K := K) rfl) (pe_call (ok_L_vectors T) (hr.mono (by decide)) (by rfl) T.g_L_vectors T.F_L_vectors.kp T.b_L_vectors .nil pass0 (pa_cons (pv 0) (pa_cons (pv 1) (pa_cons pe_int (pa_cons (pv 3) pa_nil))))) pe_int (fun _ _ => rfl)))
      (pss_cons (ps_set (i := 8) sc_L_net.nd rfl (Or.inl rfl) (pe_call (ok_L_vectors T) (hr.mono (by decide)) (by rfl) T.g_L_vectors T.F_L_vectors.kp T.b_L_vectors .nil pass0 (pa_cons (pv 0) (pa_cons (pv 1) (pa_cons (pv 2) (pa_cons (pv 3) pa_nil))))))
      (pss_cons (ps_set (i := 9) sc_L_net.nd rfl (Or.inl rfl) (pe_ix (k_ix (K := K) rfl) (pe_lst (pa_cons pe_non (pa_cons pe_non (pa_cons (pe_call (ok_L_draw T) (hr.mono (by decide)) (by rfl) T.g_L_draw T.F_L_draw.kp T.b_L_draw .nil pass0 (pa_cons (pv 0) (pa_cons (pv 2) pa_nil))) pa_nil)))) (pe_call (ok_L_draw T) (hr.mono (by decide)) (by rfl) T.g_L_draw T.F_L_draw.kp T.b_L_draw .nil pass0 (pa_cons (pv 0) (pa_cons pe_int pa_nil))) (fun _ _ => rfl)))
      (pss_one (ps_ret (pe_tup (pa_cons (pv 1) (pa_cons (pv 6) (pa_cons (pv 7) (pa_cons (pe_callTy (k_tupS (K := K) rfl) (by rfl) T.z_tuple (by decide +kernel) (pa_cons (pv 4) pa_nil)) (pa_cons (pv 8) (pa_cons (pv 9) pa_nil)))))))))))))))))), ?_⟩
    refine go_start (σ' := [some (.ref p), none, none, none, none, none, none, none, none, none, none]) rfl ?_
    try dsimp only [cxOf, Cx.nox, Cx.wish]
    walk_at "GO"
    -- the prime
    rename_i q1 H1 hq1 s1 e1
    have hP1 := hP.same s1
    refine ⟨p, 8, rfl, hP1, by omega, fun r1 H2 h10 h11 f2 hP2 => ?_⟩
    have e1' : H2 q1 = some (.lst (([2, 3, 5, 7, 11, 13, 31, 97] : List Int).map V.int)) := f2 _ _ (hP.ne hq1) e1
    have f02 := (Fr.same (t := p) s1).trans f2
    clear f2 hP1 e1 s1
    walk_at "GO"
    have hpm : nth [2, 3, 5, 7, 11, 13, 31, 97] r1 ∈ primes := by
      have hm := nth_mem (ns := [2, 3, 5, 7, 11, 13, 31, 97]) (i := r1) h10 (by show r1 < (8 : Int); omega)
      simp only [List.mem_cons, List.not_mem_nil, or_false] at hm
      rcases hm with h | h | h | h | h | h | h | h <;> rw [h] <;> decide
    generalize nth [2, 3, 5, 7, 11, 13, 31, 97] r1 = pr at hpm ⊢
    have hpb := prime_between hpm
    clear e1'
    -- the letters
    rename_i q2 H3 hq2 s3 e3
    have hP3 := hP2.same s3
    refine ⟨p, 8, rfl, hP3, by omega, fun r2 H4 h20 h21 f4 hP4 => ?_⟩
    have e3' : H4 q2 = some (.lst (([1, 2, 2, 3, 3, 4, 5, 12] : List Int).map V.int)) := f4 _ _ (hP2.ne hq2) e3
    have f04 := (f02.trans (Fr.same s3)).trans f4
    clear f4 hP3 e3 s3 f02
    walk_at "GO"
    have hL : 1 ≤ nth [1, 2, 2, 3, 3, 4, 5, 12] r2 ∧ nth [1, 2, 2, 3, 3, 4, 5, 12] r2 ≤ 12 := by
      have hm := nth_mem (ns := [1, 2, 2, 3, 3, 4, 5, 12]) (i := r2) h20 (by show r2 < (8 : Int); omega)
      simp only [List.mem_cons, List.not_mem_nil, or_false] at hm
      omega
    generalize nth [1, 2, 2, 3, 3, 4, 5, 12] r2 = L at hL ⊢
    clear e3'
    -- the width
    rename_i q3 H5 hq3 s5 e5
    have hP5 := hP4.same s5
    refine ⟨p, 10, rfl, hP5, by omega, fun r3 H6 h30 h31 f6 hP6 => ?_⟩
    have e5' : H6 q3 = some (.lst (([1, 1, 1, 2, 2, 2, 3, 1, 2, 4] : List Int).map V.int)) := f6 _ _ (hP4.ne hq3) e5
    have f06 := (f04.trans (Fr.same s5)).trans f6
    clear f6 hP5 e5 s5 f04
    walk_at "GO"
    have hW : 1 ≤ nth [1, 1, 1, 2, 2, 2, 3, 1, 2, 4] r3 ∧ nth [1, 1, 1, 2, 2, 2, 3, 1, 2, 4] r3 ≤ 4 := by
      have hm := nth_mem (ns := [1, 1, 1, 2, 2, 2, 3, 1, 2, 4]) (i := r3) h30 (by show r3 < (10 : Int); omega)
      simp only [List.mem_cons, List.not_mem_nil, or_false] at hm
      omega
    generalize nth [1, 1, 1, 2, 2, 2, 3, 1, 2, 4] r3 = wd at hW ⊢
    clear e5'
    -- the layers
    rename_i D H7 hD7 s7 e7 q4 H8 hq4 s8 e8
    have hP8 := (hP6.same s7).same s8
    have hDp := hP6.ne hD7
    refine ⟨p, 8, rfl, hP8, by omega, fun r4 H9 h40 h41 f9 hP9 => ?_⟩
    have e8' : H9 q4 = some (.lst (([0, 1, 1, 2, 0, 1, 1, 3] : List Int).map V.int)) := f9 _ _ ((hP6.same s7).ne hq4) e8
    have e79 : H9 D = some (.lst []) := f9 _ _ hDp (s8 _ _ e7)
    have f09 := ((f06.trans (Fr.same s7)).trans (Fr.same s8)).trans f9
    have hD0 : H D = none := f06.none hDp hD7
    clear f9 hP8 e8 s8 s7 e7 f06 hP6 hP4 hP2
    walk_at "GO"
    have hM : 0 ≤ nth [0, 1, 1, 2, 0, 1, 1, 3] r4 ∧ nth [0, 1, 1, 2, 0, 1, 1, 3] r4 ≤ 3 := by
      have hm := nth_mem (ns := [0, 1, 1, 2, 0, 1, 1, 3]) (i := r4) h40 (by show r4 < (8 : Int); omega)
      simp only [List.mem_cons, List.not_mem_nil, or_false] at hm
      omega
    generalize nth [0, 1, 1, 2, 0, 1, 1, 3] r4 = m at hM ⊢
    clear e8'
    refine l_range (fun i σ H' => ∃ (Ls : List (List Mat)) (ys : List V) (y5 y10 : Option V), σ = [some (.ref p), some (.int pr), some (.int L), some (.int wd), some (.ref D), y5, none, none, none, none, y10] ∧ Ls.length = i ∧ ys.length = i ∧ (∀ L ∈ Ls, L.length = 5 ∧ ∀ M ∈ L, M.length = wd.toNat ∧ MatOk pr wd.toNat M) ∧ Fr p H H' ∧ IsPool H' p ∧ H' D = some (.lst ys) ∧ ∀ (j : Nat) y d, ys[j]? = some y → Ls[j]? = some d → RSeq false K (RMat K) H' y d)
      (by omega) (by omega) ⟨[], [], _, _, rfl, rfl, rfl, List.forall_mem_nil _, f09, hP9, e79, fun j y d h _ => by simp at h⟩ ?_ ?_
    · rintro i σ H10 hi ⟨Ls, ys, y5, y10, rfl, hLl, hyl, hLs, f10, hP10, e10, hr10⟩
      walk_at "GO"
      refine c_poolR (R := RMat K) (fun M => M.length = wd.toNat ∧ MatOk pr wd.toNat M) RMat.mono RMat.tup hP10 (by omega) (by omega) (fun _ => rfl) (fun j H11 N hj f11 hP11 hN => ?_) (fun q H' zs ds hq f hP' e hzl hdl hr hQ => ?_)
      · walk_at "GO"
        exact ⟨p, pr, wd, wd, rfl, hP11, by omega, by omega, by omega, by omega, by omega, fun v' H' M f hP' rM hMl hMo => hN _ _ _ f hP' rM ⟨hMl, hMo⟩⟩
      · walk_at "GO"
        rename_i t H12 ht st et
        have f12 := f10.trans (f.trans (Fr.same st))
        have hP12 := hP'.same st
        have e12 := st _ _ (f _ _ hDp e10)
        have rt : RSeq false K (RMat K) H12 (.ref t) ds := ⟨t, zs, rfl, Sq.tup et, by omega, fun i y d h1 h2 => RMat.mono _ _ _ _ st (hr i y d h1 h2)⟩
        have hr12 : ∀ (j : Nat) y d, ys[j]? = some y → Ls[j]? = some d → RSeq false K (RMat K) H12 y d := fun j y d h1 h2 => RSeq.mono RMat.mono _ _ _ _ st (Fr.rep (RSeq.mono RMat.mono) (RSeq.tup RMat.tup) f hP10.nt (hr10 j y d h1 h2))
        clear f hP' e hr st ht hr10 et
        refine w_append e12 (line_of1 (by omega)) ?_
        walk_at "GO"
        refine ⟨Ls ++ [ds], ys ++ [.ref t], _, _, rfl, by rw [List.length_append, hLl]; rfl, by rw [List.length_append, hyl]; rfl, fun L' hL' => ?_, f12.mut hD0, hP12.upd hDp, upd_same, fun j y d h1 h2 => ?_⟩
        · rcases List.mem_append.mp hL' with h | h
          · exact hLs L' h
          · rw [List.mem_singleton.mp h]; exact ⟨hdl, hQ⟩
        · refine RTup.upd (RSeq.tup RMat.tup) (RSeq.mono RMat.mono) (NTup.lst e12) ?_
          by_cases hj : j < i
          · rw [List.getElem?_append_left (by omega)] at h1 h2
            exact hr12 j y d h1 h2
          · have hj1 := (List.getElem?_eq_some_iff.mp h1).1
            rw [List.length_append] at hj1
            have ej : j = i := by
              have : j < ys.length + 1 := hj1
              omega
            subst ej
            rw [List.getElem?_append_right (by omega), hyl, Nat.sub_self] at h1
            rw [List.getElem?_append_right (by omega), hLl, Nat.sub_self] at h2
            cases h1
            cases h2
            exact rt
    · rintro σ H10 ⟨Ls, ys, y5, y10, rfl, hLl, hyl, hLs, f10, hP10, e10, hr10⟩
      walk_at "GO"
      refine ⟨p, pr, L, wd, rfl, hP10, by omega, by omega, by omega, by omega, by omega, fun vE H11 E f11 hP11 rE hEl hEo => ?_⟩
      walk_at "GO"
      refine ⟨p, pr, 1, wd, rfl, hP11, by omega, by omega, by omega, by omega, by omega, fun vS H12 S f12 hP12 rS hSl hSo => ?_⟩
      obtain ⟨aS, xS, rfl, hS, hSl2, hSr⟩ := rS
      have hS0 : S[0]? = some (S[0]'(by omega)) := List.getElem?_eq_getElem (by omega)
      generalize S[0]'(by omega) = sh at hS0
      have hx0 : xS[0]? = some (xS[0]'(by omega)) := List.getElem?_eq_getElem (by omega)
      generalize xS[0]'(by omega) = x0 at hx0
      have rsh := hSr 0 x0 sh hx0 hS0
      have osh := hSo _ (List.mem_of_getElem? hS0)
      walk_at "GO"
      refine w_ix hS (atI_nat (j := 0) hx0) ?_
      clear hSr hS hSo hx0 hS0
      walk_at "GO"
      refine ⟨p, pr, L, wd, rfl, hP12, by omega, by omega, by omega, by omega, by omega, fun vO H13 O f13 hP13 rO hOl hOo => ?_⟩
      walk_at "GO"
      refine ⟨p, L, rfl, hP13, by omega, fun r5 H14 h50 h51 f14 hP14 => ?_⟩
      walk_at "GO"
      rename_i q5 H15 hq5 s15 e15
      have hP15 := hP14.same s15
      refine ⟨p, 3, rfl, hP15, by omega, fun r6 H16 h60 h61 f16 hP16 => ?_⟩
      have e16 : H16 q5 = some (.lst [.non, .non, .int r5]) := f16 _ _ (hP14.ne hq5) e15
      have f1016 := (f11.trans f12).trans ((f13.trans f14).trans ((Fr.same s15).trans f16))
      have f1116 := f12.trans ((f13.trans f14).trans ((Fr.same s15).trans f16))
      have f1216 := (f13.trans f14).trans ((Fr.same s15).trans f16)
      have f1316 := f14.trans ((Fr.same s15).trans f16)
      have e10' := f1016 _ _ hDp e10
      have rE := Fr.rep RMat.mono RMat.tup f1116 hP11.nt rE
      have rsh := Fr.rep RVec.mono RVec.tup f1216 hP12.nt rsh
      have rO := Fr.rep RMat.mono RMat.tup f1316 hP13.nt rO
      have hr16 : ∀ (j : Nat) y d, ys[j]? = some y → Ls[j]? = some d → RSeq false K (RMat K) H16 y d := fun j y d h1 h2 => Fr.rep (RSeq.mono RMat.mono) (RSeq.tup RMat.tup) f1016 hP10.nt (hr10 j y d h1 h2)
      have f016 := f10.trans f1016
      clear f11 f12 f13 f14 f16 f1016 f1116 f1216 f1316 s15 e15 hr10 e10 hP10 hP11 hP12 hP13 hP14 hP15
      obtain ⟨e, he, hend⟩ : ∃ e, atI [V.non, .non, .int r5] r6 = some e ∧ (e = .non ∨ e = .int r5) := by
        have h : r6 = 0 ∨ r6 = 1 ∨ r6 = 2 := by omega
        rcases h with rfl | rfl | rfl
        · exact ⟨_, rfl, .inl rfl⟩
        · exact ⟨_, rfl, .inl rfl⟩
        · exact ⟨_, rfl, .inr rfl⟩
      walk_at "GO"
      refine w_ix (Sq.lst e16) he ?_
      clear e16
      walk_at "GO"
      rename_i t1 H17 ht1 st e17 t2 H18 ht2 s18 e18
      have rl : RSeq false K (RSeq false K (RMat K)) H17 (.ref t1) Ls := ⟨t1, ys, rfl, Sq.tup e17, by omega, fun j y d h1 h2 => RSeq.mono RMat.mono _ _ _ _ st (hr16 j y d h1 h2)⟩
      have s1618 := st.trans s18
      refine k _ _ ⟨pr, E, sh, Ls, O⟩ e wd.toNat (f016.trans (Fr.same s1618)) (hP16.same s1618) ⟨t2, _, _, _, _, rfl, Sq.tup e18, RMat.mono _ _ _ _ s1618 rE, RVec.mono _ _ _ _ s1618 rsh, RSeq.mono (RSeq.mono RMat.mono) _ _ _ _ s18 rl, RMat.mono _ _ _ _ s1618 rO⟩
        ⟨hpb.1, hpb.2, by omega, hEo, osh, hLs, hOo, by show E.length ≤ 12; omega, by show O.length ≤ 12; omega, by show Ls.length ≤ 3; omega⟩ (by omega) hpm (by show 1 ≤ E.length; omega) (by show O.length = E.length; omega) ?_
      rcases hend with h | h
      · exact .inl h
      · refine .inr ⟨r5.toNat, by rw [h]; congr 1; omega, by show r5.toNat < E.length; omega⟩

/-! ### the law's own rows: as houses' laws reckon them -/
theorem rgV_ints {n : Int} (h : 0 ≤ n) : rgV 0 n = ((List.range n.toNat).map fun i => ((i : Nat) : Int)).map V.int := by
  unfold rgV
  rw [Int.sub_zero, List.map_map]
  refine List.map_congr_left fun i _ => ?_
  show V.int (0 + (i : Int)) = V.int (i : Int)
  rw [Int.zero_add]
def placesI (n : Nat) : List Int := (List.range n).map fun i => ((i : Nat) : Int)
theorem placesI_len (n : Nat) : (placesI n).length = n := by unfold placesI; rw [List.length_map, List.length_range]
theorem placesI_at {n i : Nat} {x : V} (h : ((placesI n).map V.int)[i]? = some x) : x = .int (i : Nat) ∧ i < n := by
  obtain ⟨e, hi⟩ := vec_at h
  rw [placesI_len] at hi
  refine ⟨?_, hi⟩
  rw [e]
  unfold placesI
  rw [nth_range hi]
theorem dot_bd {p : Int} (hp : p ≤ 97) : ∀ {us vs : List Int}, Sml p us → Sml p vs → 0 ≤ dot us vs ∧ dot us vs ≤ 9216 * us.length
  | [], _, _, _ => ⟨Int.le_refl _, by show (0 : Int) ≤ 9216 * 0; omega⟩
  | _ :: _, [], _, _ => by
    refine ⟨Int.le_refl _, ?_⟩
    show (0 : Int) ≤ _
    omega
  | a :: us, b :: vs, h1, h2 => by
    obtain ⟨d0, d1⟩ := dot_bd hp (us := us) (vs := vs) (fun x hx => h1 x (List.mem_cons_of_mem _ hx)) fun x hx => h2 x (List.mem_cons_of_mem _ hx)
    obtain ⟨a0, a1⟩ := h1 a (List.mem_cons_self ..)
    obtain ⟨b0, b1⟩ := h2 b (List.mem_cons_self ..)
    have e : dot (a :: us) (b :: vs) = a * b + dot us vs := rfl
    have m0 : 0 ≤ a * b := Int.mul_nonneg a0 b0
    have m1 : a * b ≤ 96 * 96 := Int.mul_le_mul (by omega) (by omega) b0 (by omega)
    rw [e, List.length_cons]
    constructor
    · omega
    · rw [show (((us.length + 1 : Nat) : Int)) = (us.length : Int) + 1 from rfl]
      omega
def sp_L_times (K : PySem.W.Frag) : Sp := fun vs H Q _ => ∃ (v1 v2 : V) (M : Mat) (x : List Int) (p : Int), vs = [v1, v2, .int p] ∧ RMat K H v1 M ∧ RVecX K H v2 x ∧ (∀ r ∈ M, r.length = x.length ∧ Bd r) ∧ M.length ≤ 1000 ∧ x.length ≤ 1000 ∧ 0 < p ∧
  ∀ D H', H D = none → Same H H' → H' D = some (.lst ((vtimes p M x).map V.int)) → Q (.ref D) H'
theorem ok_L_times (T : Txt K mg) : FnOk P w K mg base CX0 1 T.a_L_times T.d_L_times ["_law_matrix", "_law_x", "_law_prime"] (sp_L_times K) := by
  refine T.F_L_times.ok sc_L_times (fun vs H Q E h => ?_) (fun cdv A outer s H vs Q E hr h => ?_)
  · obtain ⟨_, _, _, _, _, rfl, _⟩ := h
    rfl
  · obtain ⟨v1, v2, M, x, p, rfl, ⟨a1, xs, rfl, h1, hl1, hr1⟩, hx, hM, hz, hxz, hp, k⟩ := h
    obtain ⟨bx, ax, rfl, hx2⟩ := id hx
    refine ⟨_, (pss_one (ps_ret (pe_lc (own := [("_law_row_here", 3)]) (g := gName 3) (tt := tYes) rfl sc_L_times.nd (k_seqS (K := K) rfl (pv 0)) (blkOk_by (own := [("_law_row_here", 3)]) (by kernel_rfl)) (fun _ _ _ _ _ => (pg_name (i := 3) sc_L_times.nd rfl (by first | exact Or.inl rfl | exact Or.inr rfl))) (fun _ _ _ _ _ => pts_nil) (fun _ _ _ _ _ => (pe_op op_mod (pe_callTy cr_int1 (by rfl) T.z_int (by decide +kernel) (pa_cons (pe_callB (k_sumS (K := K) rfl rfl) (by rfl) T.z_sum (by decide +kernel) (pa_cons (pe_lc (own := [("_law_k", 4)]) (g := gName 4) (tt := tYes) rfl sc_L_times.nd (pi_range1 rfl T.z_range (pa_cons (pe_callB (k_lenS (K := K) rfl) (by rfl) T.z_len (by decide +kernel) (pa_cons (pv 1) pa_nil)) pa_nil)) (blkOk_by (own := [("_law_k", 4)]) (by kernel_rfl)) (fun _ _ _ _ _ => (pg_name (i := 4) sc_L_times.nd rfl (by first | exact Or.inl rfl | exact Or.inr rfl))) (fun _ _ _ _ _ => pts_nil) (fun _ _ _ _ _ => (pe_op op_mul (pe_ix (k_ix (K := K) rfl) (pv 3) (pv 4) (fun _ _ => rfl)) (pe_ix (k_ix (K := K) rfl) (pv 1) (pv 4) (fun _ _ => rfl))))) pa_nil)) pa_nil)) (pv 2)))))), ?_⟩
    refine go_start (σ' := [some (.ref a1), some (.ref ax), some (.int p), none, none]) rfl ?_
    try dsimp only [cxOf, Cx.nox, Cx.wish]
    walk_at "GO"
    refine c_ints xs h1 (vtimes p M x) (by rw [vtimes_len, hl1]) (line_of (by omega)) (fun _ => rfl) (fun i y H1 N hi hy sm hN2 => ?_) (fun D H' hD sm e2 => ?_)
    · have hd : M[i]? = some (M[i]'(by omega)) := List.getElem?_eq_getElem (by omega)
      obtain ⟨hm1, hm2⟩ := hM _ (List.mem_of_getElem? hd)
      obtain ⟨ay, rfl, hay⟩ := RVec.mono _ _ _ _ sm (hr1 i y _ hy hd)
      have hen := nth_mapG (f := fun r => dot r x % p) hd
      have hvt : nth (vtimes p M x) ((i : Nat) : Int) = dot (M[i]'(by omega)) x % p := hen
      rw [hvt] at hN2
      generalize M[i]'(by omega) = r at hm1 hm2 hay hN2
      have hx3 := sm.sq hx2
      walk_at "GO"
      refine c_intsR (by omega) (by omega) (List.zipWith (· * ·) r x) (by rw [List.length_zipWith, hm1, Nat.min_self]; omega) (fun _ => rfl) (fun j H2 N2 hj s2 hN3 => ?_) (fun D H' hD s2 e2 => ?_)
      · have hb := hm2 _ (nth_mem (ns := r) (i := ((j : Nat) : Int)) (by omega) (by omega))
        have hay2 := s2.sq hay
        have hx4 := s2.sq hx3
        walk_at "GO"
        rw [← nth_zip (f := fun a b => a * b) (u := r) (v := x) (by omega) (by omega)]
        exact hN3 _ (Same.refl _)
      · have e2' : Sq true K H' D ((List.zipWith (· * ·) r x).map V.int) := Sq.lst e2
        walk_at "GO"
        exact hN2 _ s2
    · walk_at "GO"
      exact k _ _ hD sm e2
def sp_L_row (K : PySem.W.Frag) : Sp := fun vs H Q _ => ∃ (v v2 e : V) (nd : NetD) (rows : List RowD) (l w : Nat), vs = [v, v2, .int (l : Nat)] ∧ RNetE K e H v nd ∧ NetOk nd w ∧ RSeq true K (RRow K) H v2 rows ∧ (∀ r ∈ rows, RowOk nd w r) ∧ rows.length ≤ 1000 ∧ l < nd.emb.length ∧
  ∀ v' H', Same H H' → RRow K H' v' (rowD nd rows l) → Q v' H'
theorem lstep_len (p : Int) (asked x : List Int) (o : PairD) : (lstep p asked x o).length = x.length := by
  unfold lstep
  rw [List.length_map, List.length_range]
theorem lfold_len {p : Int} {asked : List Int} : ∀ {prs : List PairD} {x : List Int}, (prs.foldl (lstep p asked) x).length = x.length
  | [], x => rfl
  | o :: r, x => by
    show (r.foldl (lstep p asked) (lstep p asked x o)).length = x.length
    rw [lfold_len, lstep_len]
theorem sml_fold {p : Int} (hp : 0 < p) {asked : List Int} : ∀ {prs : List PairD} {x : List Int}, Sml p x → Sml p (prs.foldl (lstep p asked) x)
  | [], x, h => h
  | o :: r, x, h => sml_fold hp (prs := r) (x := lstep p asked x o) fun y hy => by
    unfold lstep at hy
    obtain ⟨k, _, rfl⟩ := List.mem_map.mp hy
    exact ⟨Int.emod_nonneg _ (by omega), Int.emod_lt_of_pos _ hp⟩
theorem near_mod (c d z p : Int) : (c + d * z) % p = (c + d % p * z) % p := by
  rw [Int.add_emod c (d * z), Int.add_emod c (d % p * z), show d % p * z % p = d * z % p by rw [Int.mul_emod (d % p) z, Int.emod_emod, ← Int.mul_emod]]
theorem ok_L_row (T : Txt K mg) : FnOk P w K mg base CX0 2 T.a_L_row T.d_L_row ["_law_net_here", "_law_rows", "_law_letter"] (sp_L_row K) := by
  refine T.F_L_row.ok sc_L_row (fun vs H Q E h => ?_) (fun cdv A outer s H vs Q E hr h => ?_)
  · obtain ⟨_, _, _, _, _, _, _, rfl, _⟩ := h
    rfl
  · obtain ⟨v, v2, en0, nd, rows, l, wd, rfl, hN, ok, ⟨ar, rvs, rfl, hR, hRl, hRr⟩, hro, hrz, hl, k⟩ := h
    have hp0 : 0 < nd.p := by have := ok.p2; omega
    have w4 := ok.w4
    have p97 := ok.p97
    obtain ⟨an, v1, v2, v3, v4, rfl, hN1, hE, ⟨ash, rfl, hSh⟩, hLay, hOut⟩ := hN
    obtain ⟨ae, evs, rfl, hE1, hEl, hEr⟩ := hE
    obtain ⟨al, lvs, rfl, hL1, hLl, hLr⟩ := hLay
    obtain ⟨ao, ovs, rfl, hO1, hOl, hOr⟩ := hOut
    refine ⟨_, (pss_cons (ps_set (i := 3) sc_L_row.nd rfl (Or.inr rfl) (pe_ix (k_ix (K := K) rfl) (pv 0) pe_int (fun _ _ => rfl)))
      (pss_cons (ps_set (i := 4) sc_L_row.nd rfl (Or.inl rfl) (pe_listRg rfl (by rfl) T.z_list (prg_1 (by rfl) T.z_range (pe_callB (k_lenS (K := K) rfl) (by rfl) T.z_len (by decide +kernel) (pa_cons (pe_ix (k_ix (K := K) rfl) (pv 0) pe_int (fun _ _ => rfl)) pa_nil)))))
      (pss_cons (ps_set (i := 5) sc_L_row.nd rfl (Or.inr rfl) (pe_lc (own := [("_law_k", 14)]) (g := gName 14) (tt := tYes) rfl sc_L_row.nd (k_seqS (K := K) rfl (pv 4)) (blkOk_by (own := [("_law_k", 14)]) (by kernel_rfl)) (fun _ _ _ _ _ => (pg_name (i := 14) sc_L_row.nd rfl (by first | exact Or.inl rfl | exact Or.inr rfl))) (fun _ _ _ _ _ => pts_nil) (fun _ _ _ _ _ => (pe_op op_mod (pe_callTy cr_int1 (by rfl) T.z_int (by decide +kernel) (pa_cons (pe_op (k_addG (K := K) rfl) (pe_ix (k_ix (K := K) rfl) (pe_ix (k_ix (K := K) rfl) (pe_ix (k_ix (K := K) rfl) (pv 0) pe_int (fun _ _ => rfl)) (pv 2) (fun _ _ => rfl)) (pv 14) (fun _ _ => rfl)) (pe_op op_mul (pe_callB (k_lenS (K := K) rfl) (by rfl) T.z_len (by decide +kernel) (pa_cons (pv 1) pa_nil)) (pe_ix (k_ix (K := K) rfl) (pe_ix (k_ix (K := K) rfl) (pv 0) pe_int (fun _ _ => rfl)) (pv 14) (fun _ _ => rfl)))) pa_nil)) (pv 3)))))
      (pss_cons (ps_set (i := 6) sc_L_row.nd rfl (Or.inl rfl) (pe_lst pa_nil))
      (pss_cons (ps_for PassesOwn.never rfl (pi_range1 rfl T.z_range (pa_cons (pe_callB (k_lenS (K := K) rfl) (by rfl) T.z_len (by decide +kernel) (pa_cons (pe_ix (k_ix (K := K) rfl) (pv 0) pe_int (fun _ _ => rfl)) pa_nil)) pa_nil)) (pg_name (i := 7) sc_L_row.nd rfl (Or.inr rfl))
      (pss_cons (ps_set (i := 8) sc_L_row.nd rfl (Or.inl rfl) (pe_ix (k_ix (K := K) rfl) (pe_ix (k_ix (K := K) rfl) (pv 0) pe_int (fun _ _ => rfl)) (pv 7) (fun _ _ => rfl)))
      (pss_cons (ps_set (i := 9) sc_L_row.nd rfl (Or.inr rfl) (pe_call (ok_L_times T) (hr.mono (by decide)) (by rfl) T.g_L_times T.F_L_times.kp T.b_L_times .nil pass0 (pa_cons (pe_ix (k_ix (K := K) rfl) (pv 8) pe_int (fun _ _ => rfl)) (pa_cons (pv 5) (pa_cons (pv 3) pa_nil)))))
      (pss_cons (ps_expr (k_bm (K := K) rfl PySem.F.plainAttrs_list PySem.F.slot_list_append PySem.F.type_list_append mt_append (pv 6) (pa_cons (pe_tup (pa_cons (pe_callTy (k_tupS (K := K) rfl) (by rfl) T.z_tuple (by decide +kernel) (pa_cons (pe_call (ok_L_times T) (hr.mono (by decide)) (by rfl) T.g_L_times T.F_L_times.kp T.b_L_times .nil pass0 (pa_cons (pe_ix (k_ix (K := K) rfl) (pv 8) pe_int (fun _ _ => rfl)) (pa_cons (pv 5) (pa_cons (pv 3) pa_nil)))) pa_nil)) (pa_cons (pe_callTy (k_tupS (K := K) rfl) (by rfl) T.z_tuple (by decide +kernel) (pa_cons (pe_call (ok_L_times T) (hr.mono (by decide)) (by rfl) T.g_L_times T.F_L_times.kp T.b_L_times .nil pass0 (pa_cons (pe_ix (k_ix (K := K) rfl) (pv 8) pe_int (fun _ _ => rfl)) (pa_cons (pv 5) (pa_cons (pv 3) pa_nil)))) pa_nil)) pa_nil))) pa_nil)))
      (pss_cons (ps_for PassesOwn.never rfl (k_seqS (K := K) rfl (pe_op (k_addG (K := K) rfl) (pe_lc (own := [("_law_row_here", 16)]) (g := gName 16) (tt := tYes) rfl sc_L_row.nd (k_seqS (K := K) rfl (pv 1)) (blkOk_by (own := [("_law_row_here", 16)]) (by kernel_rfl)) (fun _ _ _ _ _ => (pg_name (i := 16) sc_L_row.nd rfl (by first | exact Or.inl rfl | exact Or.inr rfl))) (fun _ _ _ _ _ => pts_nil) (fun _ _ _ _ _ => (pe_ix (k_ix (K := K) rfl) (pe_ix (k_ix (K := K) rfl) (pv 16) pe_int (fun _ _ => rfl)) (pv 7) (fun _ _ => rfl)))) (pe_lst (pa_cons (pe_ix (k_ix (K := K) rfl) (pv 6) (pe_un un_neg pe_int) (fun _ _ => rfl)) pa_nil)))) (pg_name (i := 10) sc_L_row.nd rfl (Or.inr rfl))
      (pss_cons (ps_set (i := 11) sc_L_row.nd rfl (Or.inr rfl) (pe_callB (k_sumS (K := K) rfl rfl) (by rfl) T.z_sum (by decide +kernel) (pa_cons (pe_lc (own := [("_law_k", 14)]) (g := gName 14) (tt := tYes) rfl sc_L_row.nd (k_seqS (K := K) rfl (pv 4)) (blkOk_by (own := [("_law_k", 14)]) (by kernel_rfl)) (fun _ _ _ _ _ => (pg_name (i := 14) sc_L_row.nd rfl (by first | exact Or.inl rfl | exact Or.inr rfl))) (fun _ _ _ _ _ => pts_nil) (fun _ _ _ _ _ => (pe_op op_mul (pe_ix (k_ix (K := K) rfl) (pv 9) (pv 14) (fun _ _ => rfl)) (pe_ix (k_ix (K := K) rfl) (pe_ix (k_ix (K := K) rfl) (pv 10) pe_int (fun _ _ => rfl)) (pv 14) (fun _ _ => rfl))))) pa_nil)))
      (pss_one (ps_set (i := 5) sc_L_row.nd rfl (Or.inr rfl) (pe_lc (own := [("_law_k", 14)]) (g := gName 14) (tt := tYes) rfl sc_L_row.nd (k_seqS (K := K) rfl (pv 4)) (blkOk_by (own := [("_law_k", 14)]) (by kernel_rfl)) (fun _ _ _ _ _ => (pg_name (i := 14) sc_L_row.nd rfl (by first | exact Or.inl rfl | exact Or.inr rfl))) (fun _ _ _ _ _ => pts_nil) (fun _ _ _ _ _ => (pe_op op_mod (pe_callTy cr_int1 (by rfl) T.z_int (by decide +kernel) (pa_cons (pe_op (k_addG (K := K) rfl) (pe_ix (k_ix (K := K) rfl) (pv 5) (pv 14) (fun _ _ => rfl)) (pe_op op_mul (pv 11) (pe_ix (k_ix (K := K) rfl) (pe_ix (k_ix (K := K) rfl) (pv 10) pe_int (fun _ _ => rfl)) (pv 14) (fun _ _ => rfl)))) pa_nil)) (pv 3))))))))
      (pss_cons (ps_setLc (i := 12) (own := [("_law_y", 15)]) (g := gName 15) (tt := tYes) rfl sc_L_row.nd rfl rfl (sw_true rfl rfl rfl (by decide +kernel)) (k_seqS (K := K) rfl (pe_call (ok_L_times T) (hr.mono (by decide)) (by rfl) T.g_L_times T.F_L_times.kp T.b_L_times .nil pass0 (pa_cons (pe_ix (k_ix (K := K) rfl) (pv 8) pe_int (fun _ _ => rfl)) (pa_cons (pv 5) (pa_cons (pv 3) pa_nil))))) (blkOk_by (own := [("_law_y", 15)]) (by kernel_rfl)) (fun _ _ _ _ _ => (pg_name (i := 15) sc_L_row.nd rfl (by first | exact Or.inl rfl | exact Or.inr rfl))) (fun _ _ _ _ _ => pts_nil) (fun _ _ _ _ _ => (pe_op op_mul (pv 15) (pv 15))))
      (pss_cons (ps_set (i := 13) sc_L_row.nd rfl (Or.inr rfl) (pe_call (ok_L_times T) (hr.mono (by decide)) (by rfl) T.g_L_times T.F_L_times.kp T.b_L_times .nil pass0 (pa_cons (pe_ix (k_ix (K := K) rfl) (pv 8) pe_int (fun _ _ => rfl)) (pa_cons (pv 12) (pa_cons (pv 3) pa_nil)))))
      (pss_one (ps_set (i := 5) sc_L_row.nd rfl (Or.inr rfl) (pe_lc (own := [("_law_k", 14)]) (g := gName 14) (tt := tYes) rfl sc_L_row.nd (k_seqS (K := K) rfl (pv 4)) (blkOk_by (own := [("_law_k", 14)]) (by kernel_rfl)) (fun _ _ _ _ _ => (pg_name (i := 14) sc_L_row.nd rfl (by first | exact Or.inl rfl | exact Or.inr rfl))) (fun _ _ _ _ _ => pts_nil) (fun _ _ _ _ _ => (pe_op op_mod (pe_callTy cr_int1 (by rfl) T.z_int (by decide +kernel) (pa_cons (pe_op (k_addG (K := K) rfl) (pe_ix (k_ix (K := K) rfl) (pv 5) (pv 14) (fun _ _ => rfl)) (pe_ix (k_ix (K := K) rfl) (pv 13) (pv 14) (fun _ _ => rfl))) pa_nil)) (pv 3)))))))))))))
      (pss_one (ps_ret (pe_tup (pa_cons (pe_callTy (k_tupS (K := K) rfl) (by rfl) T.z_tuple (by decide +kernel) (pa_cons (pv 6) pa_nil)) (pa_cons (pe_callTy (k_tupS (K := K) rfl) (by rfl) T.z_tuple (by decide +kernel) (pa_cons (pe_lc (own := [("_law_weight", 17)]) (g := gName 17) (tt := tYes) rfl sc_L_row.nd (k_seqS (K := K) rfl (pe_call (ok_L_times T) (hr.mono (by decide)) (by rfl) T.g_L_times T.F_L_times.kp T.b_L_times .nil pass0 (pa_cons (pe_ix (k_ix (K := K) rfl) (pv 0) pe_int (fun _ _ => rfl)) (pa_cons (pv 5) (pa_cons (pv 3) pa_nil))))) (blkOk_by (own := [("_law_weight", 17)]) (by kernel_rfl)) (fun _ _ _ _ _ => (pg_name (i := 17) sc_L_row.nd rfl (by first | exact Or.inl rfl | exact Or.inr rfl))) (fun _ _ _ _ _ => pts_nil) (fun _ _ _ _ _ => (pe_op (k_addG (K := K) rfl) (pv 17) pe_int))) pa_nil)) pa_nil)))))))))), ?_⟩
    refine go_start (σ' := [some (.ref an), some (.ref ar), some (.int (l : Nat)), none, none, none, none, none, none, none, none, none, none, none, none, none, none, none]) rfl ?_
    try dsimp only [cxOf, Cx.nox, Cx.wish]
    have hel : nd.emb[l]? = some (nd.emb.getD l []) := by
      rw [List.getD_eq_getElem?_getD, List.getElem?_eq_getElem hl]
      rfl
    obtain ⟨ye, hye, ⟨aye, rfl, hye2⟩⟩ := RSeq.get hEl hEr hel
    have hew : (nd.emb.getD l []).length = wd := (ok.emb _ (List.mem_of_getElem? hel)).1
    have hsl := ok.sh.1
    have hx0 := startX_ok ok (rows := rows) hl
    have hxs : startX nd rows l = vplus nd.p (nd.emb.getD l []) (nd.sh.map fun n => (rows.length : Int) * n) := rfl
    walk_at "GO"
    refine ⟨RgOk.of_le (by omega) (by omega) (by omega) (by omega), fun pl hpl => ?_⟩
    rw [rgV_ints (by omega), show ((nd.sh.length : Nat) : Int).toNat = wd by omega]
    have s0 := Same.new (o := .lst ((placesI wd).map V.int)) hpl
    have epl : (upd H pl (.lst ((placesI wd).map V.int))) pl = some (.lst ((placesI wd).map V.int)) := upd_same
    show _
    generalize eH0 : upd H pl (.lst ((placesI wd).map V.int)) = H0 at s0 epl
    have eH0' : upd H pl (.lst (((List.range wd).map fun i => ((i : Nat) : Int)).map V.int)) = H0 := eH0
    rw [eH0']
    have hPl : Sq true K H0 pl ((placesI wd).map V.int) := Sq.lst epl
    have hzl : ((placesI wd).map V.int).length < sizeLine := line_of (by rw [List.length_map, placesI_len]; omega)
    have hpll : ((placesI wd).map V.int).length = wd := by rw [List.length_map, placesI_len]
    clear eH0 eH0' epl
    have hN0 := s0.sq hN1
    walk_at "GO"
    refine c_ints ((placesI wd).map V.int) hPl (startX nd rows l) (by rw [hx0.1, hpll]) hzl (fun _ => rfl) (fun i y H1 N hi hy sm hN2 => ?_) (fun ax0 H1 hax0 s1 e1 => ?_)
    · obtain ⟨rfl, hi⟩ := placesI_at hy
      have s01 := s0.trans sm
      have hN3 := s01.sq hN1
      have hE3 := s01.sq hE1
      have hye3 := s01.sq hye2
      have hR3 := s01.sq hR
      have hSh3 := s01.sq hSh
      walk_at "GO"
      refine w_ix hE3 (atI_nat hye) ?_
      walk_at "GO"
      have en : nth (startX nd rows l) ((i : Nat) : Int) = (nth (nd.emb.getD l []) (i : Nat) + (rows.length : Int) * nth nd.sh (i : Nat)) % nd.p := by
        rw [hxs]
        unfold vplus
        rw [nth_zip (by omega) (by rw [List.length_map]; omega), nth_map (by omega)]
      rw [hRl, ← en]
      exact hN2 _ (Same.refl _)
    have hN1' := (s0.trans s1).sq hN1
    have hL1' := (s0.trans s1).sq hL1
    walk_at "GO"
    rename_i D H2 hD s2 e2
    have n1 : ax0 ≠ D := ne_of_none e1 hD
    have e1' := s2 _ _ e1
    have hPl2 := (s1.trans s2).sq hPl
    have s02 := (s0.trans s1).trans s2
    have f2 : Filled (RPr K) H1 H2 D [] := ⟨hD, s2, [], e2, rfl, fun i y d h => by simp at h⟩
    have hL2 := s02.sq hL1
    have hN2 := s02.sq hN1
    clear hN0 hN1' hL1' e1
    walk_at "GO"
    refine l_range (fun i σ H' => ∃ (ax : Addr) (y7 y8 y9 y10 y11 y12 y13 : Option V), σ = [some (.ref an), some (.ref ar), some (.int (l : Nat)), some (.int nd.p), some (.ref pl), some (.ref ax), some (.ref D), y7, y8, y9, y10, y11, y12, y13, none, none, none, none] ∧ ax ≠ D ∧
        H' ax = some (.lst ((rowSt nd rows (startX nd rows l) i).2.map V.int)) ∧ Filled (RPr K) H1 H' D (rowSt nd rows (startX nd rows l) i).1)
      (by have := ok.l3; omega) (by have := ok.l3; omega) ⟨ax0, none, none, none, none, none, none, none, rfl, n1, e1', f2⟩ ?_ ?_
    · clear e1' n1 f2 hPl2 s02 hL2 hN2 e2 s2
      rintro i σ H' hi ⟨ax, y7, y8, y9, y10, y11, y12, y13, rfl, nax, hxv, f⟩
      have hi' : i < nd.lay.length := by omega
      have hL : nd.lay[i]? = some (nd.lay.getD i []) := by
        rw [List.getD_eq_getElem?_getD, List.getElem?_eq_getElem hi']
        rfl
      generalize eL : nd.lay.getD i [] = L at hL
      obtain ⟨hL5, hLm⟩ := ok.lay L (List.mem_of_getElem? hL)
      obtain ⟨st1, st2, st3, st4⟩ := rowSt_ok ok hro hx0 i (by omega)
      generalize ex : (rowSt nd rows (startX nd rows l) i).2 = x at hxv st3 st4
      have s3 := (s0.trans s1).trans f.same
      obtain ⟨yl, hyl, hy5⟩ := RSeq.get hLl hLr hL
      have hy5 := RSeq.mono RMat.mono _ _ _ _ s3 hy5
      rw [five_of hL5] at hy5
      obtain ⟨a5, q0, q1, q2, q3, q4, rfl, h5, m0, m1, m2, m3, m4⟩ := RSeq.five hy5
      have hM : ∀ j : Nat, j < 5 → (mt L j).length = wd ∧ MatOk nd.p wd (mt L j) := fun j hj => (mt_ok ⟨hL5, hLm⟩ hj).2
      have hx3 : RVecX K H' (.ref ax) x := ⟨true, ax, rfl, Sq.lst hxv⟩
      have hN3 := s3.sq hN1
      have hL3 := s3.sq hL1
      walk_at "GO"
      refine w_ix hL3 (atI_nat hyl) ?_
      walk_at "GO"
      refine ⟨_, _, _, x, _, rfl, m0, hx3, mat_bd p97 (hM 0 (by omega)).2 st3, by rw [(hM 0 (by omega)).1]; omega, by omega, hp0, fun Dq H4 hDq s4 eq4 => ?_⟩
      have h54 := s4.sq h5
      obtain ⟨ysA, eA, _, _⟩ := (f.mono RPr.mono s4).at_
      clear hN3 hL3
      walk_at "GO"
      -- pair
      refine ⟨_, _, _, x, _, rfl, RMat.mono _ _ _ _ s4 m1, RVecX.mono _ _ _ _ s4 hx3, mat_bd p97 (hM 1 (by omega)).2 st3, by rw [(hM 1 (by omega)).1]; omega, by omega, hp0, fun Dk H5 hDk s5 ek => ?_⟩
      walk_at "GO"
      rename_i tk H6 htk s6 ek6
      have rk : RVec false K H6 (.ref tk) (vtimes nd.p (mt L 1) x) := ⟨tk, rfl, Sq.tup ek6⟩
      have s46 := (s4.trans s5).trans s6
      have h56 := s46.sq h5
      clear h54 ek
      walk_at "GO"
      refine ⟨_, _, _, x, _, rfl, RMat.mono _ _ _ _ s46 m2, RVecX.mono _ _ _ _ s46 hx3, mat_bd p97 (hM 2 (by omega)).2 st3, by rw [(hM 2 (by omega)).1]; omega, by omega, hp0, fun Dv H7 hDv s7 ev => ?_⟩
      walk_at "GO"
      rename_i tv H8 htv s8 ev8 ap H9 hap s9 e9
      have rv : RVec false K H8 (.ref tv) (vtimes nd.p (mt L 2) x) := ⟨tv, rfl, Sq.tup ev8⟩
      have rk := RVec.mono _ _ _ _ (s7.trans s8) rk
      have s48 := s46.trans (s7.trans s8)
      have eq8 := ((s5.trans s6).trans (s7.trans s8)) _ _ eq4
      clear h56
      have hpair : RPr K H9 (.ref ap) (pairOf nd.p L x) := ⟨ap, _, _, rfl, Sq.tup e9, RVec.mono _ _ _ _ s9 rk, RVec.mono _ _ _ _ s9 rv⟩
      have s49 := s48.trans s9
      have eq9 := s9 _ _ eq8
      have f9 := f.mono RPr.mono s49
      have hxv9 := s49 _ _ hxv
      clear e9 rk rv eq8 ev eq4 ek6 ev8
      obtain ⟨ys0, e0, hys0, _⟩ := f9.at_
      obtain ⟨ys1, e1, hys1, f10⟩ := f9.push (RPr.tup _ _ _ _ (NTup.lst e0) hpair)
      rw [e0] at e1
      obtain rfl : ys0 = ys1 := by injection e1 with e1; injection e1
      refine w_append e0 (line_of (by rw [hys0, st1]; have := ok.l3; omega)) ?_
      have hlast : (upd H9 D (.lst (ys0 ++ [.ref ap]))) D = some (.lst (ys0 ++ [.ref ap])) := upd_same
      have hxv10 : (upd H9 D (.lst (ys0 ++ [.ref ap]))) ax = some (.lst (x.map V.int)) := (upd_ne nax).trans hxv9
      have nq : Dq ≠ D := fun z => by
        obtain ⟨yy, ee, _⟩ := f.at_
        rw [z, ee] at hDq
        cases hDq
      have eq10 : (upd H9 D (.lst (ys0 ++ [.ref ap]))) Dq = some (.lst ((vtimes nd.p (mt L 0) x).map V.int)) := (upd_ne nq).trans eq9
      have hpair10 : RPr K (upd H9 D (.lst (ys0 ++ [.ref ap]))) (.ref ap) (pairOf nd.p L x) := RTup.upd RPr.tup RPr.mono (NTup.lst e0) hpair
      have h510 : Sq false K (upd H9 D (.lst (ys0 ++ [.ref ap]))) a5 [q0, q1, q2, q3, q4] := by
        obtain ⟨yy, ee, _⟩ := f9.at_
        exact hide_same D _ |>.sq (by rw [hide_upd]; exact sq_hide (NTup.lst ee) (s49.sq h5))
      have m310 : RMat K (upd H9 D (.lst (ys0 ++ [.ref ap]))) q3 (mt L 3) := RTup.upd RMat.tup RMat.mono (NTup.lst e0) (RMat.mono _ _ _ _ s49 m3)
      have m410 : RMat K (upd H9 D (.lst (ys0 ++ [.ref ap]))) q4 (mt L 4) := RTup.upd RMat.tup RMat.mono (NTup.lst e0) (RMat.mono _ _ _ _ s49 m4)
      have s010 := (s0.trans s1).trans f10.same
      have sP10 := s1.trans f10.same
      generalize upd H9 D (.lst (ys0 ++ [.ref ap])) = H10 at hlast hxv10 eq10 hpair10 h510 m310 m410 f10 s010 sP10 ⊢
      clear e0 e1 hpair eq9 hxv9 f9 s49 s48 s46 s9 m0 m1 m2 m3 m4 hx3 hxv h5 hys1 f s3
      have hP10 := sP10.sq hPl
      have hR10 := s010.sq hR
      walk_at "GO"
      -- the pairs looked at
      refine c_rep (R := RPr K) RPr.mono RPr.tup rvs hR10 (prsAt rows i) (by unfold prsAt; rw [List.length_map, hRl]) (line_of (by omega)) (fun _ => rfl) (fun j z d H11 N hj hz hd s11 hN2 => ?_) (fun D7 H11 ys hD7 s11 e11 hyl2 hyr2 => ?_)
      · have hrj : rows[j]? = some (rows[j]'(by omega)) := List.getElem?_eq_getElem (by omega)
        generalize rows[j]'(by omega) = r at hrj
        have ed : d = r.1.getD i ([], []) := by
          unfold prsAt at hd
          rw [List.getElem?_map, hrj] at hd
          exact (Option.some.inj hd).symm
        obtain ⟨az, z1, z2, rfl, hz1, ⟨ap1, pvs, rfl, hp1, hpl, hpr⟩, _⟩ := RRow.mono _ _ _ _ (s010.trans s11) (hRr j z r hz hrj)
        have hr1 : r.1[i]? = some (r.1.getD i ([], [])) := by
          rw [List.getD_eq_getElem?_getD, List.getElem?_eq_getElem (by rw [(hro r (List.mem_of_getElem? hrj)).1]; exact hi')]
          rfl
        obtain ⟨yp, hyp, rp⟩ := RSeq.get hpl hpr hr1
        walk_at "GO"
        refine w_ix hp1 (atI_nat hyp) ?_
        exact hN2 _ _ (Same.refl _) (by rw [ed]; exact rp)
      have hlast11 := s11 _ _ hlast
      walk_at "GO"
      refine w_ix (Sq.lst hlast11) (last_atV (n := ys0.length) (by rw [List.getElem?_append_right (Nat.le_refl _), Nat.sub_self]; rfl) (by rw [List.length_append]; rfl)) ?_
      walk_at "GO"
      rename_i b1 H12 hb1 s12 e12
      have hlen7 : ys.length = rows.length := by rw [hyl2]; exact List.length_map ..
      refine w_catLL (s12 _ _ e11) e12 (by rw [sizeLine_eq]; simp only [List.length_cons, List.length_nil]; omega) fun b2 hb2 => ?_
      have s13 := Same.new (o := .lst (ys ++ [.ref ap])) hb2
      have hprs : RSeq true K (RPr K) (upd H12 b2 (.lst (ys ++ [.ref ap]))) (.ref b2) (prsAt rows i ++ [pairOf nd.p L x]) := by
        refine ⟨b2, _, rfl, Sq.lst upd_same, by rw [List.length_append, List.length_append, hyl2]; rfl, fun j y' d' h1 h2 => ?_⟩
        by_cases hj : j < ys.length
        · rw [List.getElem?_append_left hj] at h1
          rw [List.getElem?_append_left (by omega)] at h2
          exact RPr.mono _ _ _ _ (s12.trans s13) (hyr2 j y' d' h1 h2)
        · have h3 := (List.getElem?_eq_some_iff.mp h1).1
          rw [List.length_append] at h3
          have ej : j = ys.length := by
            have : j < ys.length + 1 := h3
            omega
          subst ej
          rw [List.getElem?_append_right (Nat.le_refl _), Nat.sub_self] at h1
          rw [hyl2, List.getElem?_append_right (Nat.le_refl _), Nat.sub_self] at h2
          cases h1
          cases h2
          exact RPr.mono _ _ _ _ ((s11.trans s12).trans s13) hpair10
      have s1013 := (s11.trans s12).trans s13
      generalize upd H12 b2 (.lst (ys ++ [.ref ap])) = H13 at s13 hprs s1013 ⊢
      have hprok := prsAt_ok hro (i := i) hi'
      have hpo := pairOf_ok (x := x) hp0 ⟨hL5, hLm⟩
      have hall : ∀ o ∈ prsAt rows i ++ [pairOf nd.p L x], PairOk nd.p wd o := fun o ho => by
        rcases List.mem_append.mp ho with h | h
        · exact hprok o h
        · rw [List.mem_singleton.mp h]; exact hpo
      have hml := mid_law hp0 ⟨hL5, hLm⟩ hprok ⟨st3, st4⟩
      have hal : (vtimes nd.p (mt L 0) x).length = wd := by rw [vtimes_len]; exact (hM 0 (by omega)).1
      have hasm := vtimes_sml hp0 (mt L 0) x
      generalize hask : vtimes nd.p (mt L 0) x = asked at hml hal hasm eq10 ⊢
      generalize hpp : prsAt rows i ++ [pairOf nd.p L x] = prs at hprs hall hml ⊢
      have eq13 := s1013 _ _ eq10
      have hx13 := s1013 _ _ hxv10
      have f13 := f10.mono RPr.mono s1013
      have hP13 := s1013.sq hP10
      clear e12 e11 hyr2 hR10 hlast11 hlast hpair10 s11 s12 s13 hxv10 eq10 f10
      obtain ⟨ab, bvs, eab, hb1s, hbl, hbr⟩ := hprs
      cases eab
      walk_at "GO"
      refine l_seq (b := true) bvs (fun j σ H' => ∃ (ax' : Addr) (y10 y11 : Option V), σ = [some (.ref an), some (.ref ar), some (.int (l : Nat)), some (.int nd.p), some (.ref pl), some (.ref ax'), some (.ref D), some (.int (i : Nat)), some (.ref a5), some (.ref Dq), y10, y11, y12, y13, none, none, none, none] ∧ ax' ≠ D ∧
          H' ax' = some (.lst (((prs.take j).foldl (lstep nd.p asked) x).map V.int)) ∧ Same H13 H')
        hb1s ⟨ax, _, _, rfl, nax, by rw [List.take_zero]; exact hx13, Same.refl _⟩ (fun j σ H' _ ⟨_, _, _, _, _, _, sm⟩ => sm.sq hb1s) ?_ ?_
      · rintro j y σ H' hj hyj ⟨ax', y10, y11, rfl, nax', hxj, sm⟩
        have hoj : prs[j]? = some (prs[j]'(by omega)) := List.getElem?_eq_getElem (by omega)
        generalize prs[j]'(by omega) = o at hoj
        obtain ⟨ho1, ho2⟩ := hall o (List.mem_of_getElem? hoj)
        obtain ⟨ay, k1, k2, rfl, hay, ⟨ak1, rfl, hk1⟩, ⟨ak2, rfl, hk2⟩⟩ := RPr.mono _ _ _ _ sm (hbr j y o hyj hoj)
        have hcsm : Sml nd.p ((prs.take j).foldl (lstep nd.p asked) x) := sml_fold hp0 st4
        generalize hcur : (prs.take j).foldl (lstep nd.p asked) x = cur at hxj hcsm
        have hcl : cur.length = wd := by rw [← hcur, lfold_len, st3]
        have eq14 : Sq true K H' Dq (asked.map V.int) := Sq.lst (sm _ _ eq13)
        have hP14 := sm.sq hP13
        have hx14 : Sq true K H' ax' (cur.map V.int) := Sq.lst hxj
        have o1l := ho1.1
        have o2l := ho2.1
        walk_at "GO"
        refine c_ints ((placesI wd).map V.int) hP14 (List.zipWith (· * ·) asked o.1) (by rw [List.length_zipWith, hal, o1l, Nat.min_self, hpll]) hzl (fun _ => rfl) (fun i2 y2 H15 N hi2 hy2 s15 hN2 => ?_) (fun dn H15 hdn s15 e15 => ?_)
        · obtain ⟨rfl, hi2⟩ := placesI_at hy2
          have b1 := hasm _ (nth_mem (ns := asked) (i := ((i2 : Nat) : Int)) (by omega) (by omega))
          have b2 := ho1.2 _ (nth_mem (ns := o.1) (i := ((i2 : Nat) : Int)) (by omega) (by omega))
          have eq15 := s15.sq eq14
          have hay15 := s15.sq hay
          have hk15 := s15.sq hk1
          walk_at "GO"
          rw [← nth_zip (f := fun a b => a * b) (u := asked) (v := o.1) (by omega) (by omega)]
          exact hN2 _ (Same.refl _)
        have e15' : Sq true K H15 dn ((List.zipWith (· * ·) asked o.1).map V.int) := Sq.lst e15
        obtain ⟨n0, n1⟩ := dot_bd p97 hasm ho1.2
        have hld : ldot nd.p asked o.1 = dot asked o.1 % nd.p := ldot_eq (by rw [hal, ho1.1])
        have hdd : (List.zipWith (· * ·) asked o.1).sum = dot asked o.1 := rfl
        walk_at "GO"
        rw [hdd]
        rw [hal] at n1
        generalize dot asked o.1 = near at n0 n1 hld ⊢
        have hP15 := s15.sq hP14
        have hx15 := s15.sq hx14
        have hay15 := s15.sq hay
        have hk25 := s15.sq hk2
        clear e15 e15' eq14 hP14 hx14
        walk_at "GO"
        refine c_ints ((placesI wd).map V.int) hP15 (lstep nd.p asked cur o) (by rw [lstep_len, hpll]; exact hcl) hzl (fun _ => rfl) (fun i2 y2 H16 N hi2 hy2 s16 hN2 => ?_) (fun ax2 H16 hax2 s16 e16 => ?_)
        · obtain ⟨rfl, hi2⟩ := placesI_at hy2
          have b1 := hcsm _ (nth_mem (ns := cur) (i := ((i2 : Nat) : Int)) (by omega) (by omega))
          have b2 := ho2.2 _ (nth_mem (ns := o.2) (i := ((i2 : Nat) : Int)) (by omega) (by omega))
          have hx16 := s16.sq hx15
          have hay16 := s16.sq hay15
          have hk26 := s16.sq hk25
          walk_at "GO"
          have en : nth (lstep nd.p asked cur o) ((i2 : Nat) : Int) = (nth cur (i2 : Nat) + near * nth o.2 (i2 : Nat)) % nd.p := by
            unfold lstep
            rw [nth_range (by omega), hld]
            exact (near_mod _ _ _ _).symm
          rw [← en]
          exact hN2 _ (Same.refl _)
        walk_at "GO"
        obtain ⟨fys, fe, _, _⟩ := (f13.mono RPr.mono (sm.trans s15)).at_
        refine ⟨ax2, _, _, rfl, (ne_of_none fe hax2).symm, ?_, (sm.trans s15).trans s16⟩
        rw [List.take_add_one, hoj]
        show H16 ax2 = some (HO.lst (((prs.take j ++ [o]).foldl (lstep nd.p asked) x).map V.int))
        rw [List.foldl_append, hcur]
        exact e16
      · rintro σ H14 ⟨ax', y10, y11, rfl, nax', hxj, s14⟩
        rw [hbl, List.take_length, hml] at hxj
        have hmidl := midOf_len (x := x) hp0 ⟨hL5, hLm⟩ hprok st3
        generalize hmd : midOf nd.p L (prsAt rows i) x = mid at hxj hmidl
        have s1014 := s1013.trans s14
        have hx14 : RVecX K H14 (.ref ax') mid := ⟨true, ax', rfl, Sq.lst hxj⟩
        have h514 := s1014.sq h510
        walk_at "GO"
        refine ⟨_, _, _, mid, _, rfl, RMat.mono _ _ _ _ s1014 m310, hx14, mat_bd p97 (hM 3 (by omega)).2 hmidl, by rw [(hM 3 (by omega)).1]; omega, by omega, hp0, fun Df H15 hDf s15 e15 => ?_⟩
        have hfl : (vtimes nd.p (mt L 3) mid).length = wd := by rw [vtimes_len]; exact (hM 3 (by omega)).1
        have hsq : sqOf nd.p L mid = (vtimes nd.p (mt L 3) mid).map fun a => a * a := rfl
        have hfb := (vtimes_sml (p := nd.p) hp0 (mt L 3) mid).bd p97
        generalize hfv : vtimes nd.p (mt L 3) mid = fv at hfl hsq hfb e15
        walk_at "GO"
        refine c_ints (fv.map V.int) (Sq.lst e15) (sqOf nd.p L mid) (by rw [hsq, List.length_map, List.length_map]) (line_of (by rw [List.length_map]; omega)) (fun _ => rfl) (fun j z H16 N hj hz s16 hN2 => ?_) (fun Ds H16 hDs s16 e16 => ?_)
        · obtain ⟨rfl, hj1⟩ := vec_at hz
          have hb := hfb _ (nth_mem (i := ((j : Nat) : Int)) (by omega) (by omega))
          walk_at "GO"
          have en : nth (sqOf nd.p L mid) ((j : Nat) : Int) = nth fv (j : Nat) * nth fv (j : Nat) := by
            rw [hsq]
            exact nth_map (f := fun a => a * a) hj1
          rw [← en]
          exact hN2 _ (Same.refl _)
        have hsl2 : (sqOf nd.p L mid).length = wd := by rw [hsq, List.length_map]; exact hfl
        have s1416 := s15.trans s16
        have s1016 := s1014.trans s1416
        have h516 := s1016.sq h510
        clear h514
        walk_at "GO"
        refine ⟨_, _, _, sqOf nd.p L mid, _, rfl, RMat.mono _ _ _ _ s1016 m410, ⟨true, Ds, rfl, Sq.lst e16⟩, mat_bd p97 (hM 4 (by omega)).2 hsl2, by rw [(hM 4 (by omega)).1]; omega, by omega, hp0, fun Dm H17 hDm s17 e17 => ?_⟩
        have hnx : nextOf nd.p L (prsAt rows i) x = vplus nd.p mid (vtimes nd.p (mt L 4) (sqOf nd.p L mid)) := by
          unfold nextOf
          rw [hmd]
        have hmol : (vtimes nd.p (mt L 4) (sqOf nd.p L mid)).length = wd := by rw [vtimes_len]; exact (hM 4 (by omega)).1
        generalize hmo : vtimes nd.p (mt L 4) (sqOf nd.p L mid) = more at hnx hmol e17
        have s1417 := s1416.trans s17
        have hxj17 : Sq true K H17 ax' (mid.map V.int) := Sq.lst (s1417 _ _ hxj)
        have hP17 := (s14.trans s1417).sq hP13
        have hm17 : Sq true K H17 Dm (more.map V.int) := Sq.lst e17
        clear h516 e16 e15
        walk_at "GO"
        refine c_ints ((placesI wd).map V.int) hP17 (nextOf nd.p L (prsAt rows i) x) (by rw [hnx, vplus_len (by omega), hpll]; exact hmidl) hzl (fun _ => rfl) (fun i2 y2 H18 N hi2 hy2 s18 hN2 => ?_) (fun ax2 H18 hax2 s18 e18 => ?_)
        · obtain ⟨rfl, hi2⟩ := placesI_at hy2
          have hx18 := s18.sq hxj17
          have hm18 := s18.sq hm17
          walk_at "GO"
          have en : nth (nextOf nd.p L (prsAt rows i) x) ((i2 : Nat) : Int) = (nth mid (i2 : Nat) + nth more (i2 : Nat)) % nd.p := by
            rw [hnx]
            unfold vplus
            rw [nth_zip (by omega) (by omega)]
          rw [← en]
          exact hN2 _ (Same.refl _)
        have f18 := f13.mono RPr.mono ((s14.trans s1417).trans s18)
        have f17 := f13.mono RPr.mono (s14.trans s1417)
        obtain ⟨fys, fe, _, _⟩ := f17.at_
        have nax2 : ax2 ≠ D := (ne_of_none fe hax2).symm
        walk_at "GO"
        have h1 : (rowSt nd rows (startX nd rows l) (i + 1)).2 = nextOf nd.p L (prsAt rows i) x := by
          show nextOf nd.p (nd.lay.getD i []) (prsAt rows i) (rowSt nd rows (startX nd rows l) i).2 = _
          rw [eL, ex]
        have h2 : (rowSt nd rows (startX nd rows l) (i + 1)).1 = (rowSt nd rows (startX nd rows l) i).1 ++ [pairOf nd.p L x] := by
          show (rowSt nd rows (startX nd rows l) i).1 ++ [pairOf nd.p (nd.lay.getD i []) (rowSt nd rows (startX nd rows l) i).2] = _
          rw [eL, ex]
        refine ⟨ax2, _, _, _, _, _, _, _, rfl, nax2, ?_, ?_⟩
        · rw [h1]
          exact e18
        · rw [h2]
          exact f18
    · rintro σ H' ⟨ax, y7, y8, y9, y10, y11, y12, y13, rfl, nax, hxv, f⟩
      rw [show ((lvs.length : Nat) : Int).toNat = nd.lay.length by omega] at hxv f
      obtain ⟨st1, st2, st3, st4⟩ := rowSt_ok ok hro hx0 nd.lay.length (Nat.le_refl _)
      have s3 := (s0.trans s1).trans f.same
      obtain ⟨ys4, e4, hl4, hr4⟩ := f.at_
      have hr4 : ∀ (i : Nat) y d, ys4[i]? = some y → (rowSt nd rows (startX nd rows l) nd.lay.length).1[i]? = some d → RPr K H' y d := fun i y d h1 h2 => RPr.mono _ _ _ _ (hide_same D H') (hr4 i y d h1 h2)
      have e3 : (lastSt nd rows l).2 = (rowSt nd rows (startX nd rows l) nd.lay.length).2 := rfl
      rw [← e3] at hxv st3
      walk_at "GO"
      rename_i t1 H4 ht1 s4 et1
      have r1 : RSeq false K (RPr K) H4 (.ref t1) (rowSt nd rows (startX nd rows l) nd.lay.length).1 := ⟨t1, ys4, rfl, Sq.tup et1, hl4, fun i y d h1 h2 => RPr.mono _ _ _ _ s4 (hr4 i y d h1 h2)⟩
      have s04 := s3.trans s4
      have hx4 := s4 _ _ hxv
      have hN4 := s04.sq hN1
      clear hN2 hL2 hPl2 hr4 e4
      walk_at "GO"
      refine ⟨_, _, nd.out, (lastSt nd rows l).2, _, rfl, RMat.mono _ _ _ _ s04 ⟨ao, ovs, rfl, hO1, hOl, hOr⟩, ⟨true, ax, rfl, Sq.lst hx4⟩, mat_bd p97 ok.out st3, by have := ok.o12; omega, by omega, hp0, fun Dt H5 hDt s5 e5 => ?_⟩
      walk_at "GO"
      refine c_ints ((vtimes nd.p nd.out (lastSt nd rows l).2).map V.int) (Sq.lst e5) (rowD nd rows l).2 (by show (nd.out.map _).length = _; rw [List.length_map, List.length_map, vtimes_len]) (line_of (by rw [List.length_map, vtimes_len]; have := ok.o12; omega)) (fun _ => rfl) (fun j y H6 N hj hy s6 hN2 => ?_) (fun D5 H6 hD5 s6 e6 => ?_)
      · obtain ⟨rfl, hj⟩ := vec_at hy
        rw [vtimes_len] at hj
        have hd : nd.out[j]? = some (nd.out[j]'hj) := List.getElem?_eq_getElem hj
        have hvv : nth (vtimes nd.p nd.out (lastSt nd rows l).2) ((j : Nat) : Int) = dot (nd.out[j]'hj) (lastSt nd rows l).2 % nd.p := nth_mapG (f := fun r => dot r (lastSt nd rows l).2 % nd.p) hd
        have hn0 : 0 ≤ dot (nd.out[j]'hj) (lastSt nd rows l).2 % nd.p := Int.emod_nonneg _ (by omega)
        have hn1 : dot (nd.out[j]'hj) (lastSt nd rows l).2 % nd.p < nd.p := Int.emod_lt_of_pos _ hp0
        have en : nth (rowD nd rows l).2 ((j : Nat) : Int) = dot (nd.out[j]'hj) (lastSt nd rows l).2 % nd.p + 1 := (nth_mapG (f := fun v => 1 + dot v (lastSt nd rows l).2 % nd.p) hd).trans (Int.add_comm ..)
        rw [hvv]
        generalize dot (nd.out[j]'hj) (lastSt nd rows l).2 % nd.p = z at hn0 hn1 en ⊢
        walk_at "GO"
        rw [← en]
        exact hN2 _ (Same.refl _)
      walk_at "GO"
      rename_i t2 H7 ht2 s7 e7 t3 H8 ht3 s8 e8
      have r2 : RVec false K H7 (.ref t2) (rowD nd rows l).2 := ⟨t2, rfl, Sq.tup e7⟩
      exact k _ _ (((s04.trans s5).trans s6).trans (s7.trans s8)) ⟨t3, .ref t1, .ref t2, rfl, Sq.tup e8, RSeq.mono RPr.mono _ _ _ _ ((s5.trans s6).trans (s7.trans s8)) r1, RVec.mono _ _ _ _ s8 r2⟩

/-! ### what the law keeps: rows under the letters up to them -/
def keyI (ls : List Nat) : List Key := ls.map fun (l : Nat) => Sum.inl ((l : Nat) : Int)
theorem keyI_V (ls : List Nat) : (keyI ls).map kV = (natI ls).map V.int := by
  unfold keyI natI
  rw [List.map_map, List.map_map]
  rfl
theorem keyI_inj {a b : List Nat} (h : keyI a = keyI b) : a = b := by
  have h2 := congrArg (List.map fun k : Key => match k with | .inl i => i.toNat | .inr _ => 0) h
  unfold keyI at h2
  rw [List.map_map, List.map_map] at h2
  have e : ∀ l : List Nat, l.map ((fun k : Key => match k with | .inl i => i.toNat | .inr _ => 0) ∘ fun (l : Nat) => Sum.inl ((l : Nat) : Int)) = l := fun l => by
    induction l with
    | nil => rfl
    | cons a r ih => rw [List.map_cons, ih]; rfl
  rw [e, e] at h2
  exact h2
def KD (K : PySem.W.Frag) (nd : NetD) (H : Hp) (kd : Addr) (N : Nat) : Prop := ∃ kvs : List (List Key × V), H kd = some (.dT kvs) ∧ kvs.length ≤ N ∧ ∀ (pre : List Nat) (l : Nat) (v : V), valV kvs (keyI (pre ++ [l])) = some v → RRow K H v (rowD nd (rowsD nd pre []) l)
theorem KD.same {K : PySem.W.Frag} {nd : NetD} {H H' : Hp} {kd : Addr} {N : Nat} (s : Same H H') (h : KD K nd H kd N) : KD K nd H' kd N := by
  obtain ⟨kvs, h1, h2, h3⟩ := h
  exact ⟨kvs, s _ _ h1, h2, fun pre l v e => RRow.mono _ _ _ _ s (h3 pre l v e)⟩
theorem KD.updL {K : PySem.W.Frag} {nd : NetD} {H : Hp} {kd D : Addr} {N : Nat} {o : HO} (hD : NTup (H D)) (ne : D ≠ kd) (h : KD K nd H kd N) : KD K nd (upd H D o) kd N := by
  obtain ⟨kvs, h1, h2, h3⟩ := h
  exact ⟨kvs, (upd_ne (Ne.symm ne)).trans h1, h2, fun pre l v e => RTup.upd RRow.tup RRow.mono hD (h3 pre l v e)⟩
theorem KD.put {K : PySem.W.Frag} {nd : NetD} {H : Hp} {kd : Addr} {N : Nat} {kvs : List (List Key × V)} {pre : List Nat} {l : Nat} {v : V} (h1 : H kd = some (.dT kvs)) (h2 : kvs.length ≤ N) (h3 : ∀ (pre : List Nat) (l : Nat) (v : V), valV kvs (keyI (pre ++ [l])) = some v → RRow K H v (rowD nd (rowsD nd pre []) l)) (hv : RRow K H v (rowD nd (rowsD nd pre []) l)) :
    KD K nd (upd H kd (.dT (putK kvs (keyI (pre ++ [l])) v))) kd (N + 1) := by
  refine ⟨_, upd_same, ?_, fun pre' l' v' e => RTup.upd RRow.tup RRow.mono (NTup.dT h1) ?_⟩
  · have := length_putK kvs (keyI (pre ++ [l])) v
    omega
  · rw [valV_put] at e
    split at e
    · rename_i ek
      have e2 := keyI_inj ek
      have e3 := List.append_inj' e2 rfl
      obtain ⟨rfl, e4⟩ := e3
      cases e4
      cases e
      exact hv
    · exact h3 pre' l' v' e

/-! ### rows that the law keeps under the letters up to them -/
theorem natI_takeK (ls : List Nat) (n : Nat) : (natI (ls.take n)).map V.int = ((natI ls).map V.int).take n := by
  unfold natI
  rw [← List.map_take, ← List.map_take]
theorem frSqN {t : Addr} {H H' : Hp} {b : Bool} {K : PySem.W.Frag} {a : Addr} {xs : List V} (f : Fr t H H') (ht : a ≠ t) (h : Sq b K H a xs) : Sq b K H' a xs := by
  cases b with
  | true =>
    have h : SqL K H a xs := h
    rcases h with (h | ⟨o, h⟩) | h
    · exact .inl (.inl (f _ _ ht h))
    · exact .inl (.inr ⟨o, f _ _ ht h⟩)
    · exact .inr h
  | false =>
    have h : SqT K H a xs := h
    rcases h with (h | ⟨o, h⟩) | h
    · exact .inl (.inl (f _ _ ht h))
    · exact .inl (.inr ⟨o, f _ _ ht h⟩)
    · exact .inr h
def sp_L_behind (K : PySem.W.Frag) : Sp := fun vs H Q _ => ∃ (v e : V) (kd a : Addr) (nd : NetD) (w N : Nat) (pre : List Nat) (l : Nat), vs = [v, .ref kd, .ref a] ∧ RNetE K e H v nd ∧ NetOk nd w ∧ KD K nd H kd N ∧ N ≤ 100000 ∧ Tq false K H a ((natI (pre ++ [l])).map V.int) ∧ (∀ x ∈ pre ++ [l], x < nd.emb.length) ∧ pre.length ≤ 1000 ∧
  ∀ v' H', Fr kd H H' → KD K nd H' kd (N + (pre.length + 1)) → RRow K H' v' (rowD nd (rowsD nd pre []) l) → Q v' H'
theorem ok_L_behind (T : Txt K mg) : FnOk P w K mg base CX0 3 T.a_L_behind T.d_L_behind ["_law_net_here", "_law_known", "_law_letters"] (sp_L_behind K) := by
  refine T.F_L_behind.ok sc_L_behind (fun vs H Q E h => ?_) (fun cdv A outer s H vs Q E hr h => ?_)
  · obtain ⟨_, _, _, _, _, _, _, _, _, rfl, _⟩ := h
    rfl
  · obtain ⟨v, e, kd, a, nd, wd, N, pre, l0, rfl, hT, ok, hK, hNl, hS, hls, hz, k⟩ := h
    refine ⟨_, (pss_cons (ps_set (i := 3) sc_L_behind.nd rfl (Or.inl rfl) (pe_lst pa_nil))
      (pss_cons (ps_for PassesOwn.never rfl (pi_range2 rfl T.z_range (pa_cons pe_int (pa_cons (pe_op (k_addG (K := K) rfl) (pe_callB (k_lenS (K := K) rfl) (by rfl) T.z_len (by decide +kernel) (pa_cons (pv 2) pa_nil)) pe_int) pa_nil))) (pg_name (i := 4) sc_L_behind.nd rfl (Or.inl rfl))
      (Evl.pss_cut (ps_if (pt_cmp (pc_dnotin (u1 hr.units) (pe_slice (k_slG (K := K) rfl) (pv 2) po_none (po_some (pv 4))) (pv 1)) rfl) (pss_one (ps_dput (u1 hr.units) (pv 1) (pe_slice (k_slG (K := K) rfl) (pv 2) po_none (po_some (pv 4))) (pe_call (ok_L_row T) (hr.mono (by decide)) (by rfl) T.g_L_row T.F_L_row.kp T.b_L_row .nil pass0 (pa_cons (pv 0) (pa_cons (pv 3) (pa_cons (pe_ix (k_ix (K := K) rfl) (pv 2) (pe_op op_sub (pv 4) pe_int) (fun _ _ => rfl)) pa_nil)))) rfl)) pss_nil)
      (pss_one (ps_expr (k_bm (K := K) rfl PySem.F.plainAttrs_list PySem.F.slot_list_append PySem.F.type_list_append mt_append (pv 3) (pa_cons (pe_dget (u1 hr.units) (pv 1) (pe_slice (k_slG (K := K) rfl) (pv 2) po_none (po_some (pv 4))) (fun _ _ => rfl)) pa_nil))))))
      (pss_one (ps_ret (pe_ix (k_ix (K := K) rfl) (pv 3) (pe_un un_neg pe_int) (fun _ _ => rfl)))))), ?_⟩
    refine go_start (σ' := [some v, some (.ref kd), some (.ref a), none, none]) rfl ?_
    try dsimp only [cxOf, Cx.nox, Cx.wish]
    obtain ⟨kvs0, hkd0, hkl0, hkv0⟩ := id hK
    have hnt : NTup (H kd) := NTup.dT hkd0
    generalize els : pre ++ [l0] = ls at hS hls
    have hll : ls.length = pre.length + 1 := by rw [← els, List.length_append]; rfl
    have hlen := natI_len ls
    walk_at "GO"
    rename_i D H1 hD s1 e1
    have hDk : D ≠ kd := fun e => by rw [e, hkd0] at hD; cases hD
    have hSD := (s1.tq hS).sq
    walk_at "GO"
    refine l_range2 (fun i σ H' => ∃ (y4 : Option V) (ys : List V), σ = [some v, some (.ref kd), some (.ref a), some (.ref D), y4] ∧ Fr kd H H' ∧ KD K nd H' kd (N + i) ∧ H' D = some (.lst ys) ∧ ys.length = i ∧ ∀ (j : Nat) y d, ys[j]? = some y → (rowsD nd (ls.take i) [])[j]? = some d → RRow K H' y d)
      ⟨by omega, by omega, by omega, by omega⟩ ⟨none, [], rfl, Fr.same s1, hK.same s1, e1, rfl, fun j y d h => by simp at h⟩ ?_ ?_
    · rintro i σ H3 hi ⟨y4, ys, rfl, f3, hK3, hD3, hyl, hyr⟩
      have hli : i < ls.length := by omega
      obtain ⟨l, hl⟩ : ∃ l, ls[i]? = some l := ⟨_, List.getElem?_eq_getElem hli⟩
      have hlm := hls l (List.mem_of_getElem? hl)
      have htk : ls.take (i + 1) = ls.take i ++ [l] := by rw [List.take_add_one, hl]; rfl
      have hrl : (rowsD nd (ls.take i) []).length = i := by rw [rowsD_len, List.length_take]; simp only [List.length_nil]; omega
      have hcut : cutV ((natI ls).map V.int) none (some (1 + (i : Int))) = (natI (ls.take (i + 1))).map V.int := by
        rw [cutV_intTo (by omega) (by rw [List.length_map, natI_len]; omega), natI_takeK, show ((1 : Int) + (i : Int)).toNat = i + 1 by omega]
      walk_at "GO"
      refine w_cut (fun σ H' => ∃ (kvs : List (List Key × V)) (v' : V), σ = [some v, some (.ref kd), some (.ref a), some (.ref D), some (.int (1 + (i : Int)))] ∧ Fr kd H H' ∧ H' kd = some (.dT kvs) ∧ kvs.length ≤ N + (i + 1) ∧ (∀ (pre : List Nat) (l : Nat) (v : V), valV kvs (keyI (pre ++ [l])) = some v → RRow K H' v (rowD nd (rowsD nd pre []) l)) ∧ valV kvs (keyI (ls.take (i + 1))) = some v' ∧ H' D = some (.lst ys) ∧ ∀ (j : Nat) y d, ys[j]? = some y → (rowsD nd (ls.take i) [])[j]? = some d → RRow K H' y d) ?_ ?_
      · walk_at "GO"
        refine w_dnotin ?_
        walk_at "GO"
        refine w_slTq (f3.tqD hkd0 hS) (ys := (natI (ls.take (i + 1))).map V.int) hcut fun p1 H5 s5 h5 => ?_
        have h5 : H5 p1 = some (.tup ((natI (ls.take (i + 1))).map V.int)) := h5
        rw [← keyI_V] at h5
        have hK5 := hK3.same s5
        have hD5 := s5 _ _ hD3
        have f5 := f3.trans (Fr.same (t := kd) s5)
        have hyr5 : ∀ (j : Nat) y d, ys[j]? = some y → (rowsD nd (ls.take i) [])[j]? = some d → RRow K H5 y d := fun j y d h1 h2 => RRow.mono _ _ _ _ s5 (hyr j y d h1 h2)
        clear hyr hD3 hK3 f3 s5
        obtain ⟨kvs, hkd, hkl, hkv⟩ := hK5
        walk_at "GO"
        refine ⟨kd, _, rfl, DGet.t hkd h5, ?_⟩
        cases hv : valV kvs (keyI (ls.take (i + 1))) with
        | none =>
          walk_at "GO"
          rw [show (!(none : Option V).isSome) = true from rfl, if_pos rfl]
          have hS5 := (f5.tqD hkd0 hS).sq
          walk_at "GO"
          have hnl : nth (natI ls) ((1 : Int) + (i : Int) - 1) = (l : Int) := by
            rw [show (1 : Int) + (i : Int) - 1 = (i : Int) by omega, nth_nat, natI, List.getD_eq_getElem?_getD, List.getElem?_map, hl]
            rfl
          rw [hnl]
          refine ⟨v, _, e, nd, rowsD nd (ls.take i) [], l, wd, rfl, Fr.rep RNetE.mono RNetE.tup f5 hnt hT, ok, ⟨D, ys, rfl, Sq.lst hD5, by rw [hyl, hrl], hyr5⟩, rowsD_ok ok _ _ (fun l' hm => hls l' (List.mem_of_mem_take hm)) (List.forall_mem_nil _), by rw [hrl]; omega, hlm, fun v6 H6 s6 r6 => ?_⟩
          have f6 := f5.trans (Fr.same (t := kd) s6)
          walk_at "GO"
          refine w_slTq (f6.tqD hkd0 hS) (ys := (natI (ls.take (i + 1))).map V.int) hcut fun p2 H7 s7 h7 => ?_
          have h7 : H7 p2 = some (.tup ((natI (ls.take (i + 1))).map V.int)) := h7
          rw [← keyI_V] at h7
          have s67 := s6.trans s7
          have hkd7 := s67 _ _ hkd
          have r7 := RRow.mono _ _ _ _ s7 r6
          walk_at "GO"
          refine ⟨kd, _, rfl, DPut.t hkd7 h7 (by rw [sizeLine_eq]; omega), ?_⟩
          walk_at "GO"
          have hkv7 : ∀ (pre : List Nat) (l : Nat) (v : V), valV kvs (keyI (pre ++ [l])) = some v → RRow K H7 v (rowD nd (rowsD nd pre []) l) := fun pre l v e => RRow.mono _ _ _ _ s67 (hkv pre l v e)
          have nt7 : NTup (H7 kd) := NTup.dT hkd7
          obtain ⟨kvs8, g1, g2, g3⟩ := KD.put hkd7 hkl hkv7 r7
          have e8 : kvs8 = putK kvs (keyI (ls.take i ++ [l])) v6 := by
            rw [upd_same] at g1
            cases g1
            rfl
          subst e8
          rw [htk]
          exact ⟨_, v6, rfl, (f6.trans (Fr.same s7)).upd _, upd_same, by omega, g3, by rw [valV_put, if_pos rfl], (upd_ne hDk).trans (s67 _ _ hD5), fun j y d h1 h2 => RTup.upd RRow.tup RRow.mono nt7 (RRow.mono _ _ _ _ s67 (hyr5 j y d h1 h2))⟩
        | some v' =>
          walk_at "GO"
          rw [show (!(some v').isSome) = false from rfl, if_neg (by decide)]
          walk_at "GO"
          exact ⟨kvs, v', rfl, f5, hkd, by omega, hkv, hv, hD5, hyr5⟩
      · clear hyr hD3 hK3 f3
        rintro σ H6 ⟨kvs6, v', rfl, f6, hkd6, hkl6, hkv6, hv6, hD6, hyr6⟩
        walk_at "GO"
        refine w_slTq (f6.tqD hkd0 hS) (ys := (natI (ls.take (i + 1))).map V.int) hcut fun p2 H7 s7 h7 => ?_
        have h7 : H7 p2 = some (.tup ((natI (ls.take (i + 1))).map V.int)) := h7
        rw [← keyI_V] at h7
        have hkd7 := s7 _ _ hkd6
        have hD7 := s7 _ _ hD6
        have f7 := f6.trans (Fr.same (t := kd) s7)
        walk_at "GO"
        refine ⟨kd, v', rfl, by rw [← hv6]; exact DGet.t hkd7 h7, ?_⟩
        walk_at "GO"
        refine w_append hD7 (line_of1 (by omega)) ?_
        walk_at "GO"
        have ntD : NTup (H7 D) := NTup.lst hD7
        rw [htk] at hv6
        have r7 := RRow.mono _ _ _ _ s7 (hkv6 _ _ _ hv6)
        refine ⟨_, ys ++ [v'], rfl, fun b u hb hbu => ?_, KD.updL ntD hDk (KD.same s7 ⟨kvs6, hkd6, hkl6, hkv6⟩), upd_same, by rw [List.length_append, hyl]; rfl, fun j y d h1 h2 => ?_⟩
        · rw [upd_ne (fun e => by rw [e, hD] at hbu; cases hbu)]
          exact f7 _ _ hb hbu
        · rw [htk, rowsD_snoc] at h2
          refine RTup.upd RRow.tup RRow.mono ntD ?_
          by_cases hj : j < i
          · rw [List.getElem?_append_left (by omega)] at h1 h2
            exact RRow.mono _ _ _ _ s7 (hyr6 j y d h1 h2)
          · have hj1 := (List.getElem?_eq_some_iff.mp h1).1
            rw [List.length_append] at hj1
            have ej : j = i := by
              have : j < ys.length + 1 := hj1
              omega
            subst ej
            rw [List.getElem?_append_right (by omega), hyl, Nat.sub_self] at h1
            rw [List.getElem?_append_right (by omega), hrl, Nat.sub_self] at h2
            cases h1
            cases h2
            exact r7
    · rintro σ H3 ⟨y4, ys, rfl, f3, hK3, hD3, hyl, hyr⟩
      have en : ((ls.length : Int) + 1 - 1).toNat = ls.length := by omega
      have hyl : ys.length = ls.length := by omega
      have hw1 : (rowsD nd ls [])[pre.length]? = some (rowD nd (rowsD nd pre []) l0) := by
        have hpl : (rowsD nd pre []).length = pre.length := by rw [rowsD_len]; simp only [List.length_nil]; omega
        rw [← els, rowsD_snoc, List.getElem?_append_right (by omega), hpl, Nat.sub_self]
        rfl
      have hyy : ys[pre.length]? = some (ys[pre.length]'(by omega)) := List.getElem?_eq_getElem (by omega)
      generalize ys[pre.length]'(by omega) = yl at hyy
      have hyr : ∀ (j : Nat) y d, ys[j]? = some y → (rowsD nd ls [])[j]? = some d → RRow K H3 y d := by
        intro j y d h1 h2
        refine hyr j y d h1 ?_
        rw [List.take_of_length_le (by omega)]
        exact h2
      walk_at "GO"
      refine w_ix (Sq.lst hD3) (last_atV hyy (by omega)) ?_
      walk_at "GO"
      refine k _ _ f3 ?_ (hyr _ _ _ hyy hw1)
      obtain ⟨kvs, g1, g2, g3⟩ := hK3
      exact ⟨kvs, g1, by omega, g3⟩
/-- list(row) or tuple(row), as drawn -/
def sp_L_as (K : PySem.W.Frag) : Sp := fun vs H Q _ => ∃ (p a : Addr) (b : Bool) (xs : List V), vs = [.ref p, .ref a] ∧ IsPool H p ∧ Sq b K H a xs ∧ a ≠ p ∧ xs.length ≤ 100000 ∧
  ∀ (a' : Addr) (b' : Bool) H', Fr p H H' → IsPool H' p → Sq b' K H' a' xs → (H a' = none ∨ b = false ∧ a' = a) → Q (.ref a') H'
theorem ok_L_as (T : Txt K mg) : FnOk P w K mg base CX0 2 T.a_L_as T.d_L_as ["_law_pool_here", "_law_row_here"] (sp_L_as K) := by
  refine T.F_L_as.ok sc_L_as (fun vs H Q E h => ?_) (fun cdv A outer s H vs Q E hr h => ?_)
  · obtain ⟨_, _, _, _, rfl, _⟩ := h
    rfl
  · obtain ⟨p, a, b, xs, rfl, hP, hS, hap, hz, k⟩ := h
    refine ⟨_, (pss_cons (ps_if (pt_cmpR (k_eqG (K := K) rfl hr.units) (pe_call (ok_L_draw T) (hr.mono (by decide)) (by rfl) T.g_L_draw T.F_L_draw.kp T.b_L_draw .nil pass0 (pa_cons (pv 0) (pa_cons pe_int pa_nil))) pe_int (nomark _)) (pss_one (ps_ret (pe_callTy (k_listS (K := K) rfl) (by rfl) T.z_list (by decide +kernel) (pa_cons (pv 1) pa_nil)))) pss_nil)
      (pss_one (ps_ret (pe_callTy (k_tupS (K := K) rfl) (by rfl) T.z_tuple (by decide +kernel) (pa_cons (pv 1) pa_nil))))), ?_⟩
    refine go_start (σ' := [some (.ref p), some (.ref a)]) rfl ?_
    try dsimp only [cxOf, Cx.nox, Cx.wish]
    walk_at "GO"
    refine ⟨p, 2, rfl, hP, by omega, fun r H1 r0 r1 f1 hP1 => ?_⟩
    have hS1 : Sq b K H1 a xs := frSqN f1 hap hS
    walk_at "GO"
    cases b with
    | true =>
      refine w_iteD (fun h0 => ?_) (fun h0 => ?_)
      · walk_at "GO"
        rename_i q H2 hq s2 e2
        exact k q true H2 (f1.trans (Fr.same s2)) (hP1.same s2) (Sq.lst e2) (.inl (Fr.none f1 (hP1.ne hq) hq))
      · walk_at "GO"
        rename_i q H2 hq s2 e2
        exact k q false H2 (f1.trans (Fr.same s2)) (hP1.same s2) (Sq.tup e2) (.inl (Fr.none f1 (hP1.ne hq) hq))
    | false =>
      refine w_iteD (fun h0 => ?_) (fun h0 => ?_)
      · walk_at "GO"
        rename_i q H2 hq s2 e2
        exact k q true H2 (f1.trans (Fr.same s2)) (hP1.same s2) (Sq.lst e2) (.inl (Fr.none f1 (hP1.ne hq) hq))
      · walk_at "GO"
        exact k a false H1 f1 hP1 hS1 (.inr ⟨rfl, rfl⟩)

theorem k_catA {X : Cx} {K : PySem.W.Frag} (h : X.K = K) : OpR X (binaryOp .Add) (rCatA K) := h ▸ op_catA
/-! ### jobs in plain lists: rows reckoned a layer at a time -/
def rowsTo (nd : NetD) (ah : List RowD) (ls : List Nat) (k : Nat) : List RowD := rowsD nd (ls.take k) ah
def jobSt (nd : NetD) (ah : List RowD) (ls : List Nat) (n k : Nat) : List PairD × List Int := rowSt nd (rowsTo nd ah ls k) (startX nd (rowsTo nd ah ls k) (ls.getD k 0)) n
def vecsD (nd : NetD) (ah : List RowD) (ls : List Nat) (n : Nat) : List (List Int) := (List.range ls.length).map fun k => (jobSt nd ah ls n k).2
def jprsD (nd : NetD) (ah : List RowD) (ls : List Nat) (n : Nat) : List (List PairD) := (List.range ls.length).map fun k => (jobSt nd ah ls n k).1
def freshD (nd : NetD) (ah : List RowD) (ls : List Nat) (n : Nat) : List PairD := (vecsD nd ah ls n).map (pairOf nd.p (nd.lay.getD n []))
def jobRows (nd : NetD) (ah : List RowD) (ls : List Nat) : List RowD := (List.range ls.length).map fun k => rowD nd (rowsTo nd ah ls k) (ls.getD k 0)
theorem vecsD_len (nd : NetD) (ah : List RowD) (ls : List Nat) (n : Nat) : (vecsD nd ah ls n).length = ls.length := by unfold vecsD; rw [List.length_map, List.length_range]
theorem jprsD_len (nd : NetD) (ah : List RowD) (ls : List Nat) (n : Nat) : (jprsD nd ah ls n).length = ls.length := by unfold jprsD; rw [List.length_map, List.length_range]
theorem freshD_len (nd : NetD) (ah : List RowD) (ls : List Nat) (n : Nat) : (freshD nd ah ls n).length = ls.length := by unfold freshD; rw [List.length_map, vecsD_len]
theorem jobRows_len (nd : NetD) (ah : List RowD) (ls : List Nat) : (jobRows nd ah ls).length = ls.length := by unfold jobRows; rw [List.length_map, List.length_range]
theorem range_at {α : Type} {f : Nat → α} {n k : Nat} {d : α} (h : ((List.range n).map f)[k]? = some d) : k < n ∧ d = f k := by
  have hk := (List.getElem?_eq_some_iff.mp h).1
  rw [List.length_map, List.length_range] at hk
  rw [List.getElem?_map, List.getElem?_range hk] at h
  exact ⟨hk, (Option.some.inj h).symm⟩
theorem range_get {α : Type} {f : Nat → α} {n k : Nat} (hk : k < n) : ((List.range n).map f)[k]? = some (f k) := by
  rw [List.getElem?_map, List.getElem?_range hk]; rfl
theorem rowsTo_len {nd : NetD} {ah : List RowD} {ls : List Nat} {k : Nat} (hk : k ≤ ls.length) : (rowsTo nd ah ls k).length = ah.length + k := by
  unfold rowsTo
  rw [rowsD_len, List.length_take]
  omega
theorem rowsTo_succ {nd : NetD} {ah : List RowD} {ls : List Nat} {k : Nat} (hk : k < ls.length) : rowsTo nd ah ls (k + 1) = rowsTo nd ah ls k ++ [rowD nd (rowsTo nd ah ls k) (ls.getD k 0)] := by
  unfold rowsTo
  have e : ls[k]? = some (ls.getD k 0) := by
    rw [List.getD_eq_getElem?_getD, List.getElem?_eq_getElem hk]
    rfl
  rw [List.take_add_one, e]
  exact rowsD_snoc nd _ _ _
theorem rowsTo_eq {nd : NetD} {ah : List RowD} {ls : List Nat} : ∀ {k : Nat}, k ≤ ls.length → rowsTo nd ah ls k = ah ++ (List.range k).map fun j => rowD nd (rowsTo nd ah ls j) (ls.getD j 0)
  | 0, _ => by
    show rowsD nd (ls.take 0) ah = ah ++ []
    rw [List.take_zero, List.append_nil]
    rfl
  | k + 1, hk => by
    rw [rowsTo_succ (by omega), List.range_succ, List.map_append, ← List.append_assoc, ← rowsTo_eq (k := k) (by omega)]
    rfl
theorem rowsD_job (nd : NetD) (ah : List RowD) (ls : List Nat) : rowsD nd ls ah = ah ++ jobRows nd ah ls := by
  have h := rowsTo_eq (nd := nd) (ah := ah) (ls := ls) (k := ls.length) (Nat.le_refl _)
  unfold rowsTo at h
  rw [List.take_length] at h
  exact h
theorem rowsD_app (nd : NetD) : ∀ (a b : List Nat) (acc : List RowD), rowsD nd (a ++ b) acc = rowsD nd b (rowsD nd a acc)
  | [], _, _ => rfl
  | _ :: r, b, acc => rowsD_app nd r b _
theorem rowSt_len (nd : NetD) (rows : List RowD) (x0 : List Int) : ∀ n, (rowSt nd rows x0 n).1.length = n
  | 0 => rfl
  | n + 1 => by
    show (_ ++ [_]).length = _
    rw [List.length_append, rowSt_len nd rows x0 n]
    rfl
theorem rowSt_get {nd : NetD} {rows : List RowD} {x0 : List Int} : ∀ {n i : Nat}, i < n → (rowSt nd rows x0 n).1[i]? = some (pairOf nd.p (nd.lay.getD i []) (rowSt nd rows x0 i).2)
  | 0, _, h => absurd h (by omega)
  | n + 1, i, h => by
    show ((rowSt nd rows x0 n).1 ++ [_])[i]? = _
    by_cases hi : i < n
    · rw [List.getElem?_append_left (by rw [rowSt_len]; exact hi)]
      exact rowSt_get hi
    · have e : i = n := by omega
      subst e
      rw [List.getElem?_append_right (by rw [rowSt_len]; omega), rowSt_len, Nat.sub_self]
      rfl
/-- what a letter of a job looks at in a layer -/
theorem job_seen {nd : NetD} {ah : List RowD} {ls : List Nat} {n k : Nat} (hn : n < nd.lay.length) (hk : k < ls.length) :
    (prsAt ah n ++ freshD nd ah ls n).take (ah.length + k + 1) = prsAt (rowsTo nd ah ls k) n ++ [pairOf nd.p (nd.lay.getD n []) (jobSt nd ah ls n k).2] := by
  have hp : (prsAt ah n).length = ah.length := List.length_map ..
  have e1 : (freshD nd ah ls n).take (k + 1) = (List.range (k + 1)).map fun j => pairOf nd.p (nd.lay.getD n []) (jobSt nd ah ls n j).2 := by
    unfold freshD vecsD
    rw [List.map_map, ← List.map_take, List.take_range, Nat.min_eq_left (by omega)]
    rfl
  have e2 : prsAt (rowsTo nd ah ls k) n = prsAt ah n ++ (List.range k).map fun j => pairOf nd.p (nd.lay.getD n []) (jobSt nd ah ls n j).2 := by
    rw [rowsTo_eq (by omega)]
    unfold prsAt
    rw [List.map_append, List.map_map]
    congr 1
    refine List.map_congr_left fun j hj => ?_
    show (lastSt nd (rowsTo nd ah ls j) (ls.getD j 0)).1.getD n ([], []) = _
    have h : (lastSt nd (rowsTo nd ah ls j) (ls.getD j 0)).1[n]? = some (pairOf nd.p (nd.lay.getD n []) (jobSt nd ah ls n j).2) := rowSt_get hn
    rw [List.getD_eq_getElem?_getD, h]
    rfl
  rw [List.take_append, hp, List.take_of_length_le (by omega), show ah.length + k + 1 - ah.length = k + 1 by omega, e1, e2, List.range_succ, List.map_append, List.append_assoc]
  rfl
theorem job_next (nd : NetD) (ah : List RowD) (ls : List Nat) (n k : Nat) : (jobSt nd ah ls (n + 1) k).2 = nextOf nd.p (nd.lay.getD n []) (prsAt (rowsTo nd ah ls k) n) (jobSt nd ah ls n k).2 := rfl
theorem job_pairs (nd : NetD) (ah : List RowD) (ls : List Nat) (n k : Nat) : (jobSt nd ah ls (n + 1) k).1 = (jobSt nd ah ls n k).1 ++ [pairOf nd.p (nd.lay.getD n []) (jobSt nd ah ls n k).2] := rfl
theorem job_rowsOk {nd : NetD} {w : Nat} (ok : NetOk nd w) {ah : List RowD} {ls : List Nat} (ha : ∀ r ∈ ah, RowOk nd w r) (hl : ∀ l ∈ ls, l < nd.emb.length) (k : Nat) : ∀ r ∈ rowsTo nd ah ls k, RowOk nd w r :=
  rowsD_ok ok _ _ (fun l h => hl l (List.mem_of_mem_take h)) ha
theorem job_ok {nd : NetD} {w : Nat} (ok : NetOk nd w) {ah : List RowD} {ls : List Nat} (ha : ∀ r ∈ ah, RowOk nd w r) (hl : ∀ l ∈ ls, l < nd.emb.length) {n k : Nat} (hn : n ≤ nd.lay.length) (hk : k < ls.length) :
    (jobSt nd ah ls n k).1.length = n ∧ (∀ q ∈ (jobSt nd ah ls n k).1, PairOk nd.p w q) ∧ (jobSt nd ah ls n k).2.length = w ∧ Sml nd.p (jobSt nd ah ls n k).2 := by
  have hlk : ls.getD k 0 < nd.emb.length := by
    rw [List.getD_eq_getElem?_getD, List.getElem?_eq_getElem hk]
    exact hl _ (List.getElem_mem _)
  exact rowSt_ok ok (job_rowsOk ok ha hl k) (startX_ok ok hlk) n hn

/-! ### jobs: the code -/
def jobF (va : V) (av ap : Addr) : List (Str × V) := [("ahead", va), ("vectors", .ref av), ("pairs", .ref ap)]
def IsJobA (K : PySem.W.Frag) (C : Addr) (H : Hp) (a av ap : Addr) (nd : NetD) (ah : List RowD) (ls : List Nat) (n : Nat) : Prop := ∃ dx va xs ys, H a = some (.ins C dx (jobF va av ap)) ∧ RSeq false K (RRow K) H va ah ∧
  H av = some (.lst xs) ∧ xs.length = ls.length ∧ (∀ (k : Nat) y d, xs[k]? = some y → (vecsD nd ah ls n)[k]? = some d → RVec false K H y d) ∧
  H ap = some (.lst ys) ∧ ys.length = ls.length ∧ (∀ (k : Nat) y d, ys[k]? = some y → (jprsD nd ah ls n)[k]? = some d → RSeq false K (RPr K) H y d)
theorem IsJobA.mono {K : PySem.W.Frag} {C a av ap : Addr} {H H' : Hp} {nd : NetD} {ah : List RowD} {ls : List Nat} {n : Nat} (s : Same H H') (h : IsJobA K C H a av ap nd ah ls n) : IsJobA K C H' a av ap nd ah ls n := by
  obtain ⟨dx, va, xs, ys, h0, h1, h2, h3, h4, h5, h6, h7⟩ := h
  exact ⟨dx, va, xs, ys, s _ _ h0, RSeq.mono RRow.mono _ _ _ _ s h1, s _ _ h2, h3, fun k y d e1 e2 => RVec.mono _ _ _ _ s (h4 k y d e1 e2), s _ _ h5, h6, fun k y d e1 e2 => RSeq.mono RPr.mono _ _ _ _ s (h7 k y d e1 e2)⟩
/-- all but one cell that is neither the job's nor a tuple -/
theorem IsJobA.fr {K : PySem.W.Frag} {C a av ap t : Addr} {H H' : Hp} {nd : NetD} {ah : List RowD} {ls : List Nat} {n : Nat} (f : Fr t H H') (hn : NTup (H t)) (n1 : a ≠ t) (n2 : av ≠ t) (n3 : ap ≠ t) (h : IsJobA K C H a av ap nd ah ls n) : IsJobA K C H' a av ap nd ah ls n := by
  obtain ⟨dx, va, xs, ys, h0, h1, h2, h3, h4, h5, h6, h7⟩ := h
  exact ⟨dx, va, xs, ys, f _ _ n1 h0, Fr.rep (RSeq.mono RRow.mono) (RSeq.tup RRow.tup) f hn h1, f _ _ n2 h2, h3, fun k y d e1 e2 => Fr.rep RVec.mono RVec.tup f hn (h4 k y d e1 e2), f _ _ n3 h5, h6, fun k y d e1 e2 => Fr.rep (RSeq.mono RPr.mono) (RSeq.tup RPr.tup) f hn (h7 k y d e1 e2)⟩
theorem frNet {K : PySem.W.Frag} {C p t : Addr} {H H' : Hp} {nd : NetD} {e : V} (f : Fr t H H') (hn : NTup (H t)) (n1 : p ≠ t) (h : IsNet K C H p nd e) : IsNet K C H' p nd e := by
  obtain ⟨dx, v1, v2, v3, v4, h0, h1, h2, h3, h4⟩ := h
  exact ⟨dx, v1, v2, v3, v4, f _ _ n1 h0, Fr.rep RMat.mono RMat.tup f hn h1, Fr.rep RVec.mono RVec.tup f hn h2, Fr.rep (RSeq.mono (RSeq.mono RMat.mono)) (RSeq.tup (RSeq.tup RMat.tup)) f hn h3, Fr.rep RMat.mono RMat.tup f hn h4⟩
theorem w_tupAny {K : PySem.W.Frag} {H : Hp} {Q : VK} {b : Bool} {a : Addr} {xs : List V} (h : Sq b K H a xs) (q : ∀ p H', Same H H' → Sq false K H' p xs → Q (.ref p) H') : rTupS K [.ref a] H Q := by
  cases b with
  | true => exact w_tupL h fun p hp => q p _ (Same.new hp) (Sq.tup upd_same)
  | false => exact w_tupT h (q a H (Same.refl _) h)
section
variable {K : PySem.W.Frag} {σ : L2.St} {H : Hp} {te : TE} {vs : List Nat} {Q : VK} {b1 b2 : Bool} {a1 a2 : Addr}
theorem c_repZ {α : Type} {R : Rep α} {i1 i2 nn : Nat} (hm : RMono R) (ht : RTup R) (xs ys : List V) (hn : xs.length = ys.length) (hx : Sq b1 K H a1 xs) (hy : Sq b2 K H a2 ys) (ds : List α) (hl : ds.length = xs.length) (hz : xs.length < sizeLine) (hnn : nn = 2)
    (hw : ∀ x y : V, wipe (((wipe σ vs).set i1 (some x)).set i2 (some y)) vs = wipe σ vs)
    (hs : ∀ (i : Nat) x y d H1 (N : VK), i < xs.length → xs[i]? = some x → ys[i]? = some y → ds[i]? = some d → Same H H1 → (∀ z H4, Same H1 H4 → R H4 z d → N z H4) → te (((wipe σ vs).set i1 (some x)).set i2 (some y)) H1 N)
    (k : ∀ D H' zs, H D = none → Same H H' → H' D = some (.lst zs) → zs.length = ds.length → (∀ (i : Nat) y d, zs[i]? = some y → ds[i]? = some d → R H' y d) → Q (.ref D) H') :
    ∃ a' b', [V.ref a1, V.ref a2] = [.ref a', .ref b'] ∧ ∃ b1 b2 xs ys, Sq b1 K H a' xs ∧ Sq b2 K H b' ys ∧ CompOk (ItzS b1 b2 K a' b') (gTup K nn (gCons (gName i1) (gCons (gName i2) gNil))) tYes te vs σ H Q :=
  l_compZ xs ys hn hx hy hz (fun i y H' => ∀ d, ds[i]? = some d → R H' y d) (fun _ _ _ _ s h d hd => hm _ _ _ _ s (h d hd)) hnn hw
    (fun i x y H1 D acc N hi hxi hyi sm hD e1 hN => by
      obtain ⟨d, hd⟩ : ∃ d, ds[i]? = some d := ⟨ds[i]'(by omega), List.getElem?_eq_getElem (by omega)⟩
      refine hs i x y d H1 N hi hxi hyi hd sm fun z H4 s4 r4 => hN z H4 s4 fun d' hd' => ?_
      rw [hd] at hd'
      cases hd'
      exact ht _ D _ _ (NTup.lst (s4 _ _ e1)) r4)
    (fun D H' zs hD sm e hly hr => k D H' zs hD sm e (by omega) fun i y d h1 h2 => hm _ _ _ _ (hide_same D H') (hr i y h1 d h2))
end
def sp_Job___init__ (K : PySem.W.Frag) (C CN : Addr) : Sp := fun vs H Q _ => ∃ (p dx n ar al : Addr) (nd : NetD) (e : V) (w : Nat) (b b2 : Bool) (ah : List RowD) (ls : List Nat), vs = [.ref p, .ref n, .ref ar, .ref al] ∧ H p = some (.ins C dx []) ∧ IsNet K CN H n nd e ∧ NetOk nd w ∧ RSeq b K (RRow K) H (.ref ar) ah ∧ Sq b2 K H al ((natI ls).map V.int) ∧ (∀ r ∈ ah, RowOk nd w r) ∧ (∀ l ∈ ls, l < nd.emb.length) ∧ ah.length ≤ 1000 ∧ ls.length ≤ 1000 ∧
  ∀ av ap H', Fr p H H' → H av = none → H ap = none → IsJobA K C H' p av ap nd ah ls 0 → Q .non H'
theorem ok_Job___init__ (T : Txt K mg) : FnOk P w K mg base CX0 3 T.a_Job___init__ T.d_Job___init__ ["self", "net", "rows", "letters"] (sp_Job___init__ K T.c_Job T.c_Net) := by
  refine T.F_Job___init__.ok sc_Job___init__ (fun vs H Q E h => ?_) (fun cdv A outer s H vs Q E hr h => ?_)
  · obtain ⟨_, _, _, _, _, _, _, _, _, _, _, _, rfl, _⟩ := h
    rfl
  · obtain ⟨p, dx, n, ar, al, nd, e, wd, b, b2, ah, ls, rfl, h0, hN, ok, hR, hS, hah, hls, haz, hlz, k⟩ := h
    have cJ := T.C_Job
    have cN := T.C_Net
    have n1 := T.n_Job_ahead
    have n2 := T.n_Job_vectors
    have n3 := T.n_Job_pairs
    have n4 := T.n_Net_embed
    have n5 := T.n_Net_shift
    have hp0 : 0 < nd.p := by have := ok.p2; omega
    have w4 := ok.w4
    have p97 := ok.p97
    have hnt : NTup (H p) := NTup.ins h0
    have hnp : n ≠ p := fun z => by
      obtain ⟨_, _, _, _, _, g, _⟩ := hN
      rw [z, h0] at g
      injection g with g
      injection g with _ _ g
      unfold netF at g
      cases g
    have hti : ∃ C dx fs, H p = some (.ins C dx fs) := ⟨_, _, _, h0⟩
    obtain ⟨_, rvs, er, hR1, hRl, hRr⟩ := id hR
    cases er
    refine ⟨_, (pss_cons (k_sfld (K := K) rfl (pv 0) (pe_callTy (k_tupS (K := K) rfl) (by rfl) T.z_tuple (by decide +kernel) (pa_cons (pv 2) pa_nil)) rfl)
      (pss_cons (k_sfld (K := K) rfl (pv 0) (pe_lst pa_nil) rfl)
      (pss_cons (ps_for PassesOwn.never rfl (k_enumS (K := K) rfl (by rfl) T.z_enumerate (pa_cons (pv 3) pa_nil)) (k_tup (K := K) rfl rfl (pgs_cons (pg_name (i := 4) sc_Job___init__.nd rfl (Or.inl rfl)) (pgs_cons (pg_name (i := 5) sc_Job___init__.nd rfl (Or.inl rfl)) pgs_nil)))
      (pss_cons (ps_set (i := 6) sc_Job___init__.nd rfl (Or.inr rfl) (pe_op (k_addG (K := K) rfl) (pe_callB (k_lenS (K := K) rfl) (by rfl) T.z_len (by decide +kernel) (pa_cons (k_fld (K := K) rfl (pv 0) rfl) pa_nil)) (pv 4)))
      (pss_one (ps_expr (k_bm (K := K) rfl PySem.F.plainAttrs_list PySem.F.slot_list_append PySem.F.type_list_append mt_append (k_fld (K := K) rfl (pv 0) rfl) (pa_cons (pe_meth (pv 1) T.C_Net T.m_Net_plus (ok_Net_plus T) (hr.mono (by decide)) T.b_Net_plus .nil pass0 (pa_cons (pe_ix (k_ix (K := K) rfl) (k_fld (K := K) rfl (pv 1) rfl) (pv 5) (fun _ _ => rfl)) (pa_cons (pe_lc (own := [("number", 8)]) (g := gName 8) (tt := tYes) rfl sc_Job___init__.nd (k_seqS (K := K) rfl (k_fld (K := K) rfl (pv 1) rfl)) (blkOk_by (own := [("number", 8)]) (by kernel_rfl)) (fun _ _ _ _ _ => (pg_name (i := 8) sc_Job___init__.nd rfl (by first | exact Or.inl rfl | exact Or.inr rfl))) (fun _ _ _ _ _ => pts_nil) (fun _ _ _ _ _ => (pe_op op_mul (pv 6) (pv 8)))) pa_nil))) pa_nil))))))
      (pss_one (k_sfld (K := K) rfl (pv 0) (pe_lc (own := [("_", 7)]) (g := gName 7) (tt := tYes) rfl sc_Job___init__.nd (k_seqS (K := K) rfl (pv 3)) (blkOk_by (own := [("_", 7)]) (by kernel_rfl)) (fun _ _ _ _ _ => (pg_name (i := 7) sc_Job___init__.nd rfl (by first | exact Or.inl rfl | exact Or.inr rfl))) (fun _ _ _ _ _ => pts_nil) (fun _ _ _ _ _ => (pe_tup pa_nil))) rfl))))), ?_⟩
    refine go_start (σ' := [some (.ref p), some (.ref n), some (.ref ar), some (.ref al), none, none, none, none, none]) rfl ?_
    try dsimp only [cxOf, Cx.nox, Cx.wish]
    walk_at "GO"
    refine w_tupAny hR1 fun q H1 s1 hq => ?_
    have r1 : RSeq false K (RRow K) H1 (.ref q) ah := ⟨q, rvs, rfl, hq, hRl, fun i y x e1 e2 => RRow.mono _ _ _ _ s1 (hRr i y x e1 e2)⟩
    have h1 := s1 _ _ h0
    have nt1 : NTup (H1 p) := NTup.ins h1
    walk_at "GO"
    rename_i av H2 hav s2 e2
    have f1 : Fr p H (upd H1 p (.ins T.c_Job dx [("ahead", .ref q)])) := (Fr.same s1).upd _
    have r2 := RSeq.mono RRow.mono _ _ _ _ s2 (RTup.upd (RSeq.tup RRow.tup) (RSeq.mono RRow.mono) (o := .ins T.c_Job dx [("ahead", .ref q)]) nt1 r1)
    have h2 := s2 _ _ (upd_same (H := H1) (a := p) (o := .ins T.c_Job dx [("ahead", .ref q)]))
    have f2 := f1.trans (Fr.same s2)
    have hpa : av ≠ p := fun z => by rw [z, upd_same] at hav; cases hav
    have hav0 : H av = none := Fr.none f1 hpa hav
    clear r1 hq h1 nt1 f1 s2 s1 hav
    have f3 := f2.upd (.ins T.c_Job dx [("ahead", .ref q), ("vectors", .ref av)])
    have r3 := RTup.upd (RSeq.tup RRow.tup) (RSeq.mono RRow.mono) (o := .ins T.c_Job dx [("ahead", .ref q), ("vectors", .ref av)]) (NTup.ins h2) r2
    have e3 : (upd H2 p (.ins T.c_Job dx [("ahead", .ref q), ("vectors", .ref av)])) av = some (.lst []) := (upd_ne hpa).trans e2
    have h3 : (upd H2 p (.ins T.c_Job dx [("ahead", .ref q), ("vectors", .ref av)])) p = some (.ins T.c_Job dx [("ahead", .ref q), ("vectors", .ref av)]) := upd_same
    walk_at "GO"
    refine l_enum (b := b2) ((natI ls).map V.int) (fun i σ H' => ∃ (y4 y5 y6 : Option V) (xs : List V), σ = [some (.ref p), some (.ref n), some (.ref ar), some (.ref al), y4, y5, y6, none, none] ∧ Fr p H H' ∧ H' p = some (.ins T.c_Job dx [("ahead", .ref q), ("vectors", .ref av)]) ∧ RSeq false K (RRow K) H' (.ref q) ah ∧ H' av = some (.lst xs) ∧ xs.length = i ∧ ∀ (k : Nat) y d, xs[k]? = some y → (vecsD nd ah ls 0)[k]? = some d → RVec false K H' y d)
      (Fr.sqI f3 hti hS) ⟨none, none, none, [], rfl, f3, h3, r3, e3, rfl, fun k y d h => by simp at h⟩ (fun i σ H' _ ⟨_, _, _, _, _, f, _⟩ => Fr.sqI f hti hS) ?_ ?_
    · clear f3 h3 r3 e3 f2 h2 r2
      rintro i x T' σ H' hi hx ⟨y4, y5, y6, xs, rfl, f, hpi, rq, hv, hxl, hxr⟩ hT
      obtain ⟨l, hl, rfl⟩ := natI_at hx
      rw [List.length_map, natI_len] at hi
      have hlm := hls l (List.mem_of_getElem? hl)
      have sT := Same.new (o := .tup [.int (i : Int), .int (l : Nat)]) hT
      refine w_pair (Sq.tup upd_same) ?_
      generalize upd H' T' (.tup [.int (i : Int), .int (l : Nat)]) = H5 at sT ⊢
      have f5 := f.trans (Fr.same sT)
      have hp5 := sT _ _ hpi
      have rq5 := RSeq.mono RRow.mono _ _ _ _ sT rq
      have hv5 := sT _ _ hv
      have hxr5 : ∀ (k : Nat) y d, xs[k]? = some y → (vecsD nd ah ls 0)[k]? = some d → RVec false K H5 y d := fun k y d h1 h2 => RVec.mono _ _ _ _ sT (hxr k y d h1 h2)
      clear hxr hv rq hpi f
      obtain ⟨_, ras, erq, hq1, hql, _⟩ := id rq5
      cases erq
      have hN5 := frNet f5 hnt hnp hN
      obtain ⟨dxn, v1, v2, v3, v4, g0, hE, ⟨ash, rfl, hSh⟩, hLay, hOut⟩ := id hN5
      unfold netF at g0
      obtain ⟨ae, evs, rfl, hE1, hEl, hEr⟩ := hE
      have hel : nd.emb[l]? = some (nd.emb.getD l []) := by
        rw [List.getD_eq_getElem?_getD, List.getElem?_eq_getElem hlm]
        rfl
      obtain ⟨ye, hye, ⟨aye, rfl, hye2⟩⟩ := RSeq.get hEl hEr hel
      have hew : (nd.emb.getD l []).length = wd := (ok.emb _ (List.mem_of_getElem? hel)).1
      walk_at "GO"
      refine w_ix hE1 (atI_nat hye) ?_
      walk_at "GO"
      refine c_ints (nd.sh.map V.int) hSh (nd.sh.map fun n => ((ah.length + i : Nat) : Int) * n) (by rw [List.length_map, List.length_map]) (line_of (by rw [List.length_map, ok.sh.1]; omega)) (fun _ => rfl) (fun j y H6 N hj hy sm hN2 => ?_) (fun D H6 hD s6 e6 => ?_)
      · obtain ⟨rfl, hj1⟩ := vec_at hy
        have hb := ok.sh.2.bd ok.p97 _ (nth_mem (ns := nd.sh) (i := ((j : Nat) : Int)) (by omega) (by omega))
        walk_at "GO"
        have en : nth (nd.sh.map fun n => ((ah.length + i : Nat) : Int) * n) ((j : Nat) : Int) = ((ras.length : Int) + (i : Int)) * nth nd.sh ((j : Nat) : Int) := by
          rw [nth_map (f := fun n => ((ah.length + i : Nat) : Int) * n) hj1, hql]
          rfl
        rw [← en]
        exact hN2 _ (Same.refl _)
      walk_at "GO"
      refine ⟨n, nd, e, _, _, _, _, rfl, hN5.mono s6, hp0, ⟨false, aye, rfl, s6.sq hye2⟩, ⟨true, D, rfl, Sq.lst e6⟩, by rw [hew, List.length_map, ok.sh.1], by omega, fun v' H7 s7 r7 => ?_⟩
      have s57 := s6.trans s7
      have hv7 := s57 _ _ hv5
      have hp7 := s57 _ _ hp5
      walk_at "GO"
      refine w_append hv7 (line_of1 (by omega)) ?_
      walk_at "GO"
      have ntv : NTup (H7 av) := NTup.lst hv7
      refine ⟨_, _, _, xs ++ [v'], rfl, (f5.trans (Fr.same s57)).mut hav0, (upd_ne (Ne.symm hpa)).trans hp7, RTup.upd (RSeq.tup RRow.tup) (RSeq.mono RRow.mono) ntv (RSeq.mono RRow.mono _ _ _ _ s57 rq5), upd_same, by rw [List.length_append, hxl]; rfl, fun k y d h1 h2 => RTup.upd RVec.tup RVec.mono ntv ?_⟩
      by_cases hk : k < i
      · rw [List.getElem?_append_left (by omega)] at h1
        exact RVec.mono _ _ _ _ s57 (hxr5 k y d h1 h2)
      · have hk1 := (List.getElem?_eq_some_iff.mp h1).1
        rw [List.length_append] at hk1
        have ek : k = i := by
          have : k < xs.length + 1 := hk1
          omega
        subst ek
        rw [List.getElem?_append_right (by omega), hxl, Nat.sub_self] at h1
        cases h1
        have hd := (range_at h2).2
        have ed : d = vplus nd.p (nd.emb.getD l []) (nd.sh.map fun n => ((ah.length + k : Nat) : Int) * n) := by
          rw [hd]
          show startX nd (rowsTo nd ah ls k) (ls.getD k 0) = _
          unfold startX
          rw [rowsTo_len (by omega), show ls.getD k 0 = l by rw [List.getD_eq_getElem?_getD, hl]; rfl]
        rw [ed]
        exact r7
    · clear f3 h3 r3 e3 f2 h2 r2
      rintro σ H' ⟨y4, y5, y6, xs, rfl, f, hpi, rq, hv, hxl, hxr⟩
      rw [List.length_map, natI_len] at hxl
      have hS' : Sq b2 K H' al ((natI ls).map V.int) := Fr.sqI f hti hS
      walk_at "GO"
      refine c_rep (R := RSeq false K (RPr K)) (RSeq.mono RPr.mono) (RSeq.tup RPr.tup) ((natI ls).map V.int) hS' (jprsD nd ah ls 0) (by rw [jprsD_len, List.length_map, natI_len]) (line_of (by rw [List.length_map, natI_len]; omega)) (fun _ => rfl) (fun j y d H5 N hj hy hd s5 hN2 => ?_) (fun ap H5 ys hap s5 e5 hyl hyr => ?_)
      · walk_at "GO"
        rename_i t H6 ht s6 e6
        have ed : d = [] := (range_at hd).2
        subst ed
        exact hN2 _ _ s6 ⟨t, [], rfl, Sq.tup e6, rfl, fun i y x h => by simp at h⟩
      have hp5 := s5 _ _ hpi
      have hap5 : ap ≠ p := fun z => by rw [z, hpi] at hap; cases hap
      rw [jprsD_len] at hyl
      walk_at "GO"
      have nt5 : NTup (H5 p) := NTup.ins hp5
      refine k av ap _ ((f.trans (Fr.same s5)).upd _) hav0 (Fr.none f hap5 hap) ⟨dx, .ref q, xs, ys, upd_same, RTup.upd (RSeq.tup RRow.tup) (RSeq.mono RRow.mono) nt5 (RSeq.mono RRow.mono _ _ _ _ s5 rq), (upd_ne hpa).trans (s5 _ _ hv), hxl, fun k y d h1 h2 => RTup.upd RVec.tup RVec.mono nt5 (RVec.mono _ _ _ _ s5 (hxr k y d h1 h2)), (upd_ne hap5).trans e5, hyl, fun k y d h1 h2 => RTup.upd (RSeq.tup RPr.tup) (RSeq.mono RPr.mono) nt5 (hyr k y d h1 h2)⟩
def sp_Job_go_through (K : PySem.W.Frag) (C CN : Addr) : Sp := fun vs H Q _ => ∃ (a av ap n : Addr) (nd : NetD) (e : V) (w : Nat) (ah : List RowD) (ls : List Nat) (i : Nat), vs = [.ref a, .ref n, .int (i : Nat)] ∧ IsJobA K C H a av ap nd ah ls i ∧ IsNet K CN H n nd e ∧ NetOk nd w ∧ (∀ r ∈ ah, RowOk nd w r) ∧ (∀ l ∈ ls, l < nd.emb.length) ∧ ah.length ≤ 1000 ∧ ls.length ≤ 1000 ∧ i < nd.lay.length ∧ n ≠ a ∧
  ∀ av' ap' H', Fr a H H' → H av' = none → H ap' = none → IsJobA K C H' a av' ap' nd ah ls (i + 1) → Q .non H'
theorem ok_Job_go_through (T : Txt K mg) : FnOk P w K mg base CX0 4 T.a_Job_go_through T.d_Job_go_through ["self", "net", "number"] (sp_Job_go_through K T.c_Job T.c_Net) := by
  refine T.F_Job_go_through.ok sc_Job_go_through (fun vs H Q E h => ?_) (fun cdv A outer s H vs Q E hr h => ?_)
  · obtain ⟨_, _, _, _, _, _, _, _, _, _, rfl, _⟩ := h
    rfl
  · obtain ⟨a, av, ap, n, nd, e, wd, ah, ls, m, rfl, hJ, hN, ok, hah, hls, haz, hlz, hm, hna, k⟩ := h
    have cJ := T.C_Job
    have cN := T.C_Net
    have n1 := T.n_Job_ahead
    have n2 := T.n_Job_vectors
    have n3 := T.n_Job_pairs
    have n4 := T.n_Net_layers
    have hp0 : 0 < nd.p := by have := ok.p2; omega
    have w4 := ok.w4
    have p97 := ok.p97
    obtain ⟨dx, va, xs, ys, h0, rA, hxs, hxl, hxr, hys, hyl, hyr⟩ := hJ
    unfold jobF at h0
    obtain ⟨aq, rvs, rfl, hA1, hAl, hAr⟩ := id rA
    obtain ⟨dxn, v1, v2, v3, v4, g0, hE, hSh, ⟨al, lvs, rfl, hL1, hLl, hLr⟩, hOut⟩ := id hN
    unfold netF at g0
    have hL : nd.lay[m]? = some (nd.lay.getD m []) := by
      rw [List.getD_eq_getElem?_getD, List.getElem?_eq_getElem hm]
      rfl
    generalize eL : nd.lay.getD m [] = L at hL
    obtain ⟨hL5, hLm⟩ := ok.lay L (List.mem_of_getElem? hL)
    obtain ⟨yl, hyl5, hy5⟩ := RSeq.get hLl hLr hL
    rw [five_of hL5] at hy5
    obtain ⟨a5, q0, q1, q2, q3, q4, rfl, h5, m0, m1, m2, m3, m4⟩ := RSeq.five hy5
    have hM : ∀ j : Nat, j < 5 → (mt L j).length = wd ∧ MatOk nd.p wd (mt L j) := fun j hj => (mt_ok ⟨hL5, hLm⟩ hj).2
    have jok := fun (k : Nat) (hk : k < ls.length) => job_ok ok hah hls (n := m) (by omega) hk
    refine ⟨_, (pss_cons (ps_asg (pe_ix (k_ix (K := K) rfl) (k_fld (K := K) rfl (pv 1) rfl) (pv 2) (fun _ _ => rfl)) (k_tup (K := K) rfl rfl (pgs_cons (pg_name (i := 3) sc_Job_go_through.nd rfl (Or.inl rfl)) (pgs_cons (pg_name (i := 4) sc_Job_go_through.nd rfl (Or.inr rfl)) (pgs_cons (pg_name (i := 5) sc_Job_go_through.nd rfl (Or.inr rfl)) (pgs_cons (pg_name (i := 6) sc_Job_go_through.nd rfl (Or.inl rfl)) (pgs_cons (pg_name (i := 7) sc_Job_go_through.nd rfl (Or.inl rfl)) pgs_nil)))))))
      (pss_cons (ps_setLc (i := 9) (own := [("vector", 8)]) (g := gName 8) (tt := tYes) rfl sc_Job_go_through.nd rfl rfl (sw_true rfl rfl rfl (by decide +kernel)) (k_seqS (K := K) rfl (k_fld (K := K) rfl (pv 0) rfl)) (blkOk_by (own := [("vector", 8)]) (by kernel_rfl)) (fun _ _ _ _ _ => (pg_name (i := 8) sc_Job_go_through.nd rfl (by first | exact Or.inl rfl | exact Or.inr rfl))) (fun _ _ _ _ _ => pts_nil) (fun _ _ _ _ _ => (pe_tup (pa_cons (pe_meth (pv 1) T.C_Net T.m_Net_times (ok_Net_times T) (hr.mono (by decide)) T.b_Net_times .nil pass0 (pa_cons (pv 4) (pa_cons (pv 8) pa_nil))) (pa_cons (pe_meth (pv 1) T.C_Net T.m_Net_times (ok_Net_times T) (hr.mono (by decide)) T.b_Net_times .nil pass0 (pa_cons (pv 5) (pa_cons (pv 8) pa_nil))) pa_nil)))))
      (pss_cons (ps_set (i := 10) sc_Job_go_through.nd rfl (Or.inl rfl) (pe_op (k_addG (K := K) rfl) (pe_lc (own := [("row", 15)]) (g := gName 15) (tt := tYes) rfl sc_Job_go_through.nd (k_seqS (K := K) rfl (k_fld (K := K) rfl (pv 0) rfl)) (blkOk_by (own := [("row", 15)]) (by kernel_rfl)) (fun _ _ _ _ _ => (pg_name (i := 15) sc_Job_go_through.nd rfl (by first | exact Or.inl rfl | exact Or.inr rfl))) (fun _ _ _ _ _ => pts_nil) (fun _ _ _ _ _ => (pe_ix (k_ix (K := K) rfl) (pe_ix (k_ix (K := K) rfl) (pv 15) pe_int (fun _ _ => rfl)) (pv 2) (fun _ _ => rfl)))) (pv 9)))
      (pss_cons (ps_set (i := 11) sc_Job_go_through.nd rfl (Or.inl rfl) (pe_lst pa_nil))
      (pss_cons (ps_for PassesOwn.never rfl (k_enumS (K := K) rfl (by rfl) T.z_enumerate (pa_cons (k_fld (K := K) rfl (pv 0) rfl) pa_nil)) (k_tup (K := K) rfl rfl (pgs_cons (pg_name (i := 12) sc_Job_go_through.nd rfl (Or.inl rfl)) (pgs_cons (pg_name (i := 8) sc_Job_go_through.nd rfl (Or.inl rfl)) pgs_nil)))
      (pss_cons (ps_set (i := 13) sc_Job_go_through.nd rfl (Or.inl rfl) (pe_slice (k_slG (K := K) rfl) (pv 10) po_none (po_some (pe_op (k_addG (K := K) rfl) (pe_op (k_addG (K := K) rfl) (pe_callB (k_lenS (K := K) rfl) (by rfl) T.z_len (by decide +kernel) (pa_cons (k_fld (K := K) rfl (pv 0) rfl) pa_nil)) (pv 12)) pe_int))))
      (pss_cons (ps_set (i := 8) sc_Job_go_through.nd rfl (Or.inl rfl) (pe_meth (pv 1) T.C_Net T.m_Net_plus (ok_Net_plus T) (hr.mono (by decide)) T.b_Net_plus .nil pass0 (pa_cons (pv 8) (pa_cons (pe_meth (pv 1) T.C_Net T.m_Net_looked_at (ok_Net_looked_at T) (hr.mono (by decide)) T.b_Net_looked_at .nil pass0 (pa_cons (pe_meth (pv 1) T.C_Net T.m_Net_times (ok_Net_times T) (hr.mono (by decide)) T.b_Net_times .nil pass0 (pa_cons (pv 3) (pa_cons (pv 8) pa_nil))) (pa_cons (pv 13) pa_nil))) pa_nil))))
      (pss_cons (ps_setLc (i := 14) (own := [("one", 17)]) (g := gName 17) (tt := tYes) rfl sc_Job_go_through.nd rfl rfl (sw_true rfl rfl rfl (by decide +kernel)) (k_seqS (K := K) rfl (pe_meth (pv 1) T.C_Net T.m_Net_times (ok_Net_times T) (hr.mono (by decide)) T.b_Net_times .nil pass0 (pa_cons (pv 6) (pa_cons (pv 8) pa_nil)))) (blkOk_by (own := [("one", 17)]) (by kernel_rfl)) (fun _ _ _ _ _ => (pg_name (i := 17) sc_Job_go_through.nd rfl (by first | exact Or.inl rfl | exact Or.inr rfl))) (fun _ _ _ _ _ => pts_nil) (fun _ _ _ _ _ => (pe_op op_mul (pv 17) (pv 17))))
      (pss_one (ps_expr (k_bm (K := K) rfl PySem.F.plainAttrs_list PySem.F.slot_list_append PySem.F.type_list_append mt_append (pv 11) (pa_cons (pe_meth (pv 1) T.C_Net T.m_Net_plus (ok_Net_plus T) (hr.mono (by decide)) T.b_Net_plus .nil pass0 (pa_cons (pv 8) (pa_cons (pe_meth (pv 1) T.C_Net T.m_Net_times (ok_Net_times T) (hr.mono (by decide)) T.b_Net_times .nil pass0 (pa_cons (pv 7) (pa_cons (pv 14) pa_nil))) pa_nil))) pa_nil))))))))
      (pss_cons (k_sfld (K := K) rfl (pv 0) (pv 11) rfl)
      (pss_one (k_sfld (K := K) rfl (pv 0) (pe_lc (own := [("row", 15), ("pair", 16)]) (g := gTup K 2 (gCons (gName 15) (gCons (gName 16) (gNil)))) (tt := tYes) rfl sc_Job_go_through.nd (k_zipS (K := K) rfl (by rfl) T.z_zip (pa_cons (k_fld (K := K) rfl (pv 0) rfl) (pa_cons (pv 9) pa_nil))) (blkOk_by (own := [("row", 15), ("pair", 16)]) (by kernel_rfl)) (fun _ _ _ _ _ => (k_tup (K := K) rfl rfl (pgs_cons (pg_name (i := 15) sc_Job_go_through.nd rfl (by first | exact Or.inl rfl | exact Or.inr rfl)) (pgs_cons (pg_name (i := 16) sc_Job_go_through.nd rfl (by first | exact Or.inl rfl | exact Or.inr rfl)) pgs_nil)))) (fun _ _ _ _ _ => pts_nil) (fun _ _ _ _ _ => (pe_op (k_catA (K := K) rfl) (pv 15) (pe_tup (pa_cons (pv 16) pa_nil))))) rfl)))))))), ?_⟩
    refine go_start (σ' := [some (.ref a), some (.ref n), some (.int (m : Nat)), none, none, none, none, none, none, none, none, none, none, none, none, none, none, none]) rfl ?_
    try dsimp only [cxOf, Cx.nox, Cx.wish]
    walk_at "GO"
    refine w_ix hL1 (atI_nat hyl5) ?_
    refine w_five h5 ?_
    have hxs1 : Sq true K H av xs := Sq.lst hxs
    walk_at "GO"
    -- fresh
    refine c_rep (R := RPr K) RPr.mono RPr.tup xs hxs1 (freshD nd ah ls m) (by rw [freshD_len, hxl]) (line_of (by omega)) (fun _ => rfl) (fun j y d H1 N hj hy hd s1 hN2 => ?_) (fun fd H1 fs hfd s1 e1 hfl hfr => ?_)
    · have hjl : j < ls.length := by omega
      have hv : (vecsD nd ah ls m)[j]? = some (jobSt nd ah ls m j).2 := range_get hjl
      have ed : d = pairOf nd.p L (jobSt nd ah ls m j).2 := by
        unfold freshD at hd
        rw [List.getElem?_map, hv, eL] at hd
        exact (Option.some.inj hd).symm
      obtain ⟨_, _, st3, st4⟩ := jok j hjl
      have ry := RVec.mono _ _ _ _ s1 (hxr j y _ hy hv)
      generalize (jobSt nd ah ls m j).2 = x at ry st3 st4 ed
      walk_at "GO"
      refine ⟨n, nd, e, _, _, _, x, rfl, hN.mono s1, hp0, RMat.mono _ _ _ _ s1 m1, ⟨false, ry⟩, mat_bd p97 (hM 1 (by omega)).2 st3, by rw [(hM 1 (by omega)).1]; omega, fun vk H4 s4 rk => ?_⟩
      have g4 := (s1.trans s4) _ _ g0
      walk_at "GO"
      refine ⟨n, nd, e, _, _, _, x, rfl, hN.mono (s1.trans s4), hp0, RMat.mono _ _ _ _ (s1.trans s4) m2, ⟨false, RVec.mono _ _ _ _ s4 ry⟩, mat_bd p97 (hM 2 (by omega)).2 st3, by rw [(hM 2 (by omega)).1]; omega, fun vv H5 s5 rv => ?_⟩
      walk_at "GO"
      rename_i t H6 ht s6 e6
      exact hN2 _ _ ((s4.trans s5).trans s6) (by rw [ed]; exact ⟨t, _, _, rfl, Sq.tup e6, RVec.mono _ _ _ _ (s5.trans s6) rk, RVec.mono _ _ _ _ s6 rv⟩)
    have h01 := s1 _ _ h0
    have hA11 := s1.sq hA1
    rw [freshD_len] at hfl
    walk_at "GO"
    -- known
    refine c_rep (R := RPr K) RPr.mono RPr.tup rvs hA11 (prsAt ah m) (by unfold prsAt; rw [List.length_map, hAl]) (line_of (by omega)) (fun _ => rfl) (fun j z d H2 N hj hz hd s2 hN2 => ?_) (fun D2 H2 zs hD2 s2 e2 hzl hzr => ?_)
    · have hrj : ah[j]? = some (ah[j]'(by omega)) := List.getElem?_eq_getElem (by omega)
      generalize ah[j]'(by omega) = r at hrj
      have ed : d = r.1.getD m ([], []) := by
        unfold prsAt at hd
        rw [List.getElem?_map, hrj] at hd
        exact (Option.some.inj hd).symm
      obtain ⟨az, z1, z2, rfl, hz1, ⟨ap1, pvs, rfl, hp1, hpl, hpr⟩, _⟩ := RRow.mono _ _ _ _ (s1.trans s2) (hAr j z r hz hrj)
      have hr1 : r.1[m]? = some (r.1.getD m ([], [])) := by
        rw [List.getD_eq_getElem?_getD, List.getElem?_eq_getElem (by rw [(hah r (List.mem_of_getElem? hrj)).1]; exact hm)]
        rfl
      obtain ⟨yp, hyp, rp⟩ := RSeq.get hpl hpr hr1
      walk_at "GO"
      refine w_ix hp1 (atI_nat hyp) ?_
      exact hN2 _ _ (Same.refl _) (by rw [ed]; exact rp)
    have hpl : (prsAt ah m).length = ah.length := List.length_map ..
    rw [hpl] at hzl
    have e12 := s2 _ _ e1
    walk_at "GO"
    refine w_catLL e2 e12 (by rw [sizeLine_eq]; omega) fun kd hkd => ?_
    have s3 := Same.new (o := .lst (zs ++ fs)) hkd
    have ekd : (upd H2 kd (.lst (zs ++ fs))) kd = some (.lst (zs ++ fs)) := upd_same
    have s123 := (s1.trans s2).trans s3
    have hkr : ∀ (i : Nat) y d, (zs ++ fs)[i]? = some y → (prsAt ah m ++ freshD nd ah ls m)[i]? = some d → RPr K (upd H2 kd (.lst (zs ++ fs))) y d := fun i y d h1 h2 => by
      by_cases hj : i < ah.length
      · rw [List.getElem?_append_left (by omega)] at h1 h2
        exact RPr.mono _ _ _ _ s3 (hzr i y d h1 h2)
      · rw [List.getElem?_append_right (by omega), hzl] at h1
        rw [List.getElem?_append_right (by omega), hpl] at h2
        exact RPr.mono _ _ _ _ (s2.trans s3) (hfr _ y d h1 h2)
    have hfr3 : ∀ (i : Nat) y d, fs[i]? = some y → (freshD nd ah ls m)[i]? = some d → RPr K (upd H2 kd (.lst (zs ++ fs))) y d := fun i y d h1 h2 => RPr.mono _ _ _ _ (s2.trans s3) (hfr i y d h1 h2)
    have e13 := s3 _ _ e12
    generalize upd H2 kd (.lst (zs ++ fs)) = H3 at s3 ekd s123 hkr hfr3 e13 ⊢
    have h03 := s123 _ _ h0
    have hxs3 := s123 _ _ hxs
    clear h01 hA11 e12 e2 e1 hzr hfr hxs1
    walk_at "GO"
    rename_i D H4 hD s4 e4
    have h04 := s4 _ _ h03
    have hxs4 := s4 _ _ hxs3
    have f4 : Filled (RVec false K) H3 H4 D ((vecsD nd ah ls (m + 1)).take 0) := ⟨hD, s4, [], e4, rfl, fun i y d h => by simp at h⟩
    clear e4
    walk_at "GO"
    refine l_enum (b := true) xs (fun i σ H' => ∃ (y8 y12 y13 y14 : Option V), σ = [some (.ref a), some (.ref n), some (.int (m : Nat)), some q0, some q1, some q2, some q3, some q4, y8, some (.ref fd), some (.ref kd), some (.ref D), y12, y13, y14, none, none, none] ∧ Filled (RVec false K) H3 H' D ((vecsD nd ah ls (m + 1)).take i))
      (Sq.lst hxs4) ⟨_, _, _, _, rfl, f4⟩ (fun i σ H' _ ⟨_, _, _, _, _, f⟩ => Sq.lst (f.same _ _ hxs3)) ?_ ?_
    · clear f4 h04 hxs4 s4 hD
      rintro i y T' σ H' hi hy ⟨y8, y12, y13, y14, rfl, f⟩ hT
      have hil : i < ls.length := by omega
      have sT := Same.new (o := .tup [.int (i : Int), y]) hT
      refine w_pair (Sq.tup upd_same) ?_
      have f := f.mono RVec.mono sT
      generalize upd H' T' (.tup [.int (i : Int), y]) = H5 at sT f ⊢
      have s05 := s123.trans f.same
      have h05 := s05 _ _ h0
      have hA5 := s05.sq hA1
      have ekd5 := f.same _ _ ekd
      have hv : (vecsD nd ah ls m)[i]? = some (jobSt nd ah ls m i).2 := range_get hil
      have hnx : (jobSt nd ah ls (m + 1) i).2 = nextOf nd.p L (prsAt (rowsTo nd ah ls i) m) (jobSt nd ah ls m i).2 := by rw [job_next, eL]
      have hseen := job_seen (nd := nd) (ah := ah) (ls := ls) hm hil
      rw [eL] at hseen
      obtain ⟨_, _, st3, st4⟩ := jok i hil
      have ry := RVec.mono _ _ _ _ s05 (hxr i y _ hy hv)
      have hrok := prsAt_ok (job_rowsOk ok hah hls i) hm
      have hrl : (prsAt (rowsTo nd ah ls i) m).length ≤ 2000 := by unfold prsAt; rw [List.length_map, rowsTo_len (by omega)]; omega
      generalize (jobSt nd ah ls m i).2 = x at ry st3 st4 hseen hnx
      generalize prsAt (rowsTo nd ah ls i) m = prs at hseen hnx hrok hrl
      obtain ⟨ay, rfl, hay⟩ := id ry
      walk_at "GO"
      refine w_slAny (ys := (zs ++ fs).take (ah.length + i + 1)) (Sq.lst ekd5) (by rw [hAl, cutV_intTo (by omega) (by rw [List.length_append]; omega), show ((ah.length : Int) + (i : Int) + 1).toNat = ah.length + i + 1 by omega]) fun sd H6 s6 hsd => ?_
      have hseenR : RSeq true K (RPr K) H6 (.ref sd) (prs ++ [pairOf nd.p L x]) := ⟨sd, _, rfl, hsd, by rw [← hseen, List.length_take, List.length_take, List.length_append, List.length_append, hzl, hfl, hpl, freshD_len], fun j z d h1 h2 => by
        rw [← hseen] at h2
        exact RPr.mono _ _ _ _ (f.same.trans s6) (rep_to hkr _ j z d h1 h2)⟩
      have s06 := s05.trans s6
      have g6 := s06 _ _ g0
      walk_at "GO"
      have hpo := pairOf_ok (x := x) hp0 ⟨hL5, hLm⟩
      refine ⟨n, nd, e, _, _, _, x, rfl, hN.mono s06, hp0, RMat.mono _ _ _ _ s06 m0, ⟨false, RVec.mono _ _ _ _ s6 ry⟩, mat_bd p97 (hM 0 (by omega)).2 st3, by rw [(hM 0 (by omega)).1]; omega, fun vq H7 s7 rq => ?_⟩
      have g7 := s7 _ _ g6
      walk_at "GO"
      refine ⟨n, nd, e, _, _, _, _, true, rfl, hN.mono (s06.trans s7), hp0, rq, RSeq.mono RPr.mono _ _ _ _ s7 hseenR, (vtimes_sml hp0 _ _).bd p97, by rw [vtimes_len, (hM 0 (by omega)).1]; omega, by rw [List.length_append]; simp only [List.length_cons, List.length_nil]; omega, fun o ho => ?_, fun vl H8 s8 rl => ?_⟩
      · rw [vtimes_len, (hM 0 (by omega)).1]
        rcases List.mem_append.mp ho with h | h
        · exact ⟨(hrok o h).1.1, (hrok o h).2.1, (hrok o h).2.2.bd p97⟩
        · rw [List.mem_singleton.mp h]; exact ⟨hpo.1.1, hpo.2.1, hpo.2.2.bd p97⟩
      have hmid : (looked nd.p (vtimes nd.p (mt L 0) x) (prs ++ [pairOf nd.p L x]) (zeros (vtimes nd.p (mt L 0) x))).length = wd := by
        rw [looked_len, zeros_len, vtimes_len, (hM 0 (by omega)).1]
        intro kv hk
        rw [zeros_len, vtimes_len, (hM 0 (by omega)).1]
        rcases List.mem_append.mp hk with h | h
        · exact (hrok kv h).2.1
        · rw [List.mem_singleton.mp h]; exact hpo.2.1
      have s68 := s7.trans s8
      have g8 := s68 _ _ g6
      walk_at "GO"
      refine ⟨n, nd, e, _, _, _, _, rfl, hN.mono (s06.trans s68), hp0, ⟨false, RVec.mono _ _ _ _ (s6.trans s68) ry⟩, ⟨false, rl⟩, by rw [st3, hmid], by omega, fun vm H9 s9 rm => ?_⟩
      have rm : RVec false K H9 vm (midOf nd.p L prs x) := rm
      have hml := midOf_len (x := x) hp0 ⟨hL5, hLm⟩ hrok st3
      have s09 := (s06.trans s68).trans s9
      have g9 := s09 _ _ g0
      clear g7 g8 g6
      walk_at "GO"
      refine ⟨n, nd, e, _, _, _, _, rfl, hN.mono s09, hp0, RMat.mono _ _ _ _ s09 m3, ⟨false, rm⟩, mat_bd p97 (hM 3 (by omega)).2 hml, by rw [(hM 3 (by omega)).1]; omega, fun vf H10 s10 rf => ?_⟩
      obtain ⟨af, rfl, hf2⟩ := rf
      walk_at "GO"
      refine c_ints ((vtimes nd.p (mt L 3) (midOf nd.p L prs x)).map V.int) hf2 (sqOf nd.p L (midOf nd.p L prs x)) (by unfold sqOf; rw [List.length_map, List.length_map]) (line_of (by rw [List.length_map, vtimes_len, (hM 3 (by omega)).1]; omega)) (fun _ => rfl) (fun j z H11 N hj hz s11 hN2 => ?_) (fun D11 H11 hD11 s11 e11 => ?_)
      · obtain ⟨rfl, hj1⟩ := vec_at hz
        have hb := (vtimes_sml (p := nd.p) hp0 (mt L 3) (midOf nd.p L prs x)).bd p97 _ (nth_mem (i := ((j : Nat) : Int)) (by omega) (by omega))
        walk_at "GO"
        have en : nth (sqOf nd.p L (midOf nd.p L prs x)) ((j : Nat) : Int) = nth (vtimes nd.p (mt L 3) (midOf nd.p L prs x)) (j : Nat) * nth (vtimes nd.p (mt L 3) (midOf nd.p L prs x)) (j : Nat) := nth_map (f := fun a => a * a) hj1
        rw [← en]
        exact hN2 _ (Same.refl _)
      have hsl : (sqOf nd.p L (midOf nd.p L prs x)).length = wd := by unfold sqOf; rw [List.length_map, vtimes_len, (hM 3 (by omega)).1]
      have s911 := s10.trans s11
      have s011 := s09.trans s911
      have g11 := s011 _ _ g0
      have f11 := f.mono RVec.mono ((s6.trans s68).trans (s9.trans s911))
      obtain ⟨ms, eD11, hmsl, _⟩ := f11.at_
      clear g9 hf2
      walk_at "GO"
      refine ⟨n, nd, e, _, _, _, _, rfl, hN.mono s011, hp0, RMat.mono _ _ _ _ s011 m4, ⟨true, D11, rfl, Sq.lst e11⟩, mat_bd p97 (hM 4 (by omega)).2 hsl, by rw [(hM 4 (by omega)).1]; omega, fun vt H12 s12 rt => ?_⟩
      have g12 := s12 _ _ g11
      clear g11 e11
      walk_at "GO"
      refine ⟨n, nd, e, _, _, _, _, rfl, hN.mono (s011.trans s12), hp0, ⟨false, RVec.mono _ _ _ _ (s911.trans s12) rm⟩, ⟨false, rt⟩, by rw [hml, vtimes_len, (hM 4 (by omega)).1], by omega, fun vz H13 s13 rz => ?_⟩
      have s1113 := s12.trans s13
      have f13 := f11.mono RVec.mono s1113
      obtain ⟨ms', eD13, hmsl', _⟩ := f13.at_
      obtain ⟨ms2, e', hl', fp⟩ := f13.push (RVec.tup _ _ _ _ (NTup.lst eD13) rz)
      have ems : ms2 = ms' := by
        rw [eD13] at e'
        cases e'
        rfl
      subst ems
      have hms3 : ms2.length = i := by rw [hmsl', List.length_take, vecsD_len]; omega
      clear eD11 e'
      walk_at "GO"
      refine w_append eD13 (line_of1 (by omega)) ?_
      walk_at "GO"
      refine ⟨_, _, _, _, rfl, ?_⟩
      have hv1 : (vecsD nd ah ls (m + 1))[i]? = some (jobSt nd ah ls (m + 1) i).2 := range_get hil
      rw [List.take_add_one, hv1, hnx]
      exact fp
    · clear f4 h04 hxs4 s4 hD
      rintro σ H5 ⟨y8, y12, y13, y14, rfl, f⟩
      rw [hxl, List.take_of_length_le (by rw [vecsD_len]; omega)] at f
      obtain ⟨ms, eD, hmsl, hmr⟩ := f.at_
      have hmr : ∀ (i : Nat) y d, ms[i]? = some y → (vecsD nd ah ls (m + 1))[i]? = some d → RVec false K H5 y d := fun i y d h1 h2 => RVec.mono _ _ _ _ (hide_same D H5) (hmr i y d h1 h2)
      have s05 := s123.trans f.same
      have h05 := s05 _ _ h0
      have hfd5 := f.same _ _ e13
      have hys5 := s05 _ _ hys
      have nt : NTup (H5 a) := NTup.ins h05
      have hDa : D ≠ a := fun z => by rw [z, h05] at eD; cases eD
      have hfa : fd ≠ a := fun z => by rw [z, h05] at hfd5; cases hfd5
      have hya : ap ≠ a := fun z => by rw [z, h05] at hys5; cases hys5
      have e6a : (upd H5 a (.ins T.c_Job dx [("ahead", .ref aq), ("vectors", .ref D), ("pairs", .ref ap)])) a = some (.ins T.c_Job dx [("ahead", .ref aq), ("vectors", .ref D), ("pairs", .ref ap)]) := upd_same
      have e6f : (upd H5 a (.ins T.c_Job dx [("ahead", .ref aq), ("vectors", .ref D), ("pairs", .ref ap)])) fd = some (.lst fs) := (upd_ne hfa).trans hfd5
      have e6y : (upd H5 a (.ins T.c_Job dx [("ahead", .ref aq), ("vectors", .ref D), ("pairs", .ref ap)])) ap = some (.lst ys) := (upd_ne hya).trans hys5
      have e6D : (upd H5 a (.ins T.c_Job dx [("ahead", .ref aq), ("vectors", .ref D), ("pairs", .ref ap)])) D = some (.lst ms) := (upd_ne hDa).trans eD
      have f6 : Fr a H (upd H5 a (.ins T.c_Job dx [("ahead", .ref aq), ("vectors", .ref D), ("pairs", .ref ap)])) := (Fr.same s05).upd _
      have r6A : RSeq false K (RRow K) (upd H5 a (.ins T.c_Job dx [("ahead", .ref aq), ("vectors", .ref D), ("pairs", .ref ap)])) (.ref aq) ah := RTup.upd (RSeq.tup RRow.tup) (RSeq.mono RRow.mono) nt (RSeq.mono RRow.mono _ _ _ _ s05 rA)
      have r6v : ∀ (i : Nat) y d, ms[i]? = some y → (vecsD nd ah ls (m + 1))[i]? = some d → RVec false K (upd H5 a (.ins T.c_Job dx [("ahead", .ref aq), ("vectors", .ref D), ("pairs", .ref ap)])) y d := fun i y d h1 h2 => RTup.upd RVec.tup RVec.mono nt (hmr i y d h1 h2)
      have r6f : ∀ (i : Nat) y d, fs[i]? = some y → (freshD nd ah ls m)[i]? = some d → RPr K (upd H5 a (.ins T.c_Job dx [("ahead", .ref aq), ("vectors", .ref D), ("pairs", .ref ap)])) y d := fun i y d h1 h2 => RTup.upd RPr.tup RPr.mono nt (RPr.mono _ _ _ _ f.same (hfr3 i y d h1 h2))
      have r6y : ∀ (i : Nat) y d, ys[i]? = some y → (jprsD nd ah ls m)[i]? = some d → RSeq false K (RPr K) (upd H5 a (.ins T.c_Job dx [("ahead", .ref aq), ("vectors", .ref D), ("pairs", .ref ap)])) y d := fun i y d h1 h2 => RTup.upd (RSeq.tup RPr.tup) (RSeq.mono RPr.mono) nt (RSeq.mono RPr.mono _ _ _ _ s05 (hyr i y d h1 h2))
      have hD0 : H D = none := by
        cases z : H D with
        | none => rfl
        | some o =>
          have h := s123 _ _ z
          rw [f.new] at h
          cases h
      clear hmr hyr hfr3 hkr ekd hxr
      walk_at "GO"
      refine c_repZ (R := RSeq false K (RPr K)) (RSeq.mono RPr.mono) (RSeq.tup RPr.tup) ys fs (by omega) (Sq.lst e6y) (Sq.lst e6f) (jprsD nd ah ls (m + 1)) (by rw [jprsD_len]; omega) (line_of (by omega)) rfl (fun _ _ => rfl) (fun j y z d H7 N hj hy hz hd s7 hN2 => ?_) (fun pd H7 ps hpd s7 e7 hpl2 hpr2 => ?_)
      · have hjl : j < ls.length := by omega
        have ry := RSeq.mono RPr.mono _ _ _ _ s7 (r6y j y _ hy (range_get hjl))
        have hfz : (freshD nd ah ls m)[j]? = some (pairOf nd.p L (jobSt nd ah ls m j).2) := by
          unfold freshD vecsD
          rw [List.getElem?_map, range_get hjl, eL]
          rfl
        have rz := RPr.mono _ _ _ _ s7 (r6f j z _ hz hfz)
        have ed : d = (jobSt nd ah ls m j).1 ++ [pairOf nd.p L (jobSt nd ah ls m j).2] := by
          rw [(range_at hd).2, job_pairs, eL]
        obtain ⟨jk1, _, _, _⟩ := jok j hjl
        have hl3 := ok.l3
        generalize (jobSt nd ah ls m j).1 = pl1 at ry ed jk1
        generalize pairOf nd.p L (jobSt nd ah ls m j).2 = pz at rz ed
        subst ed
        obtain ⟨ay, yvs, rfl, hy1, hyl1, hyr1⟩ := ry
        walk_at "GO"
        rename_i t H8 ht s8 e8
        refine w_catA (s8.sq hy1) (Sq.tup e8) (by simp only [List.length_cons, List.length_nil]; omega) fun q H9 s9 hq => ?_
        refine hN2 _ _ (s8.trans s9) ⟨q, yvs ++ [z], rfl, hq, by rw [List.length_append, List.length_append, hyl1]; rfl, fun i y' d' h1 h2 => ?_⟩
        by_cases hi : i < yvs.length
        · rw [List.getElem?_append_left hi] at h1
          rw [List.getElem?_append_left (by omega)] at h2
          exact RPr.mono _ _ _ _ (s8.trans s9) (hyr1 i y' d' h1 h2)
        · have h3 := (List.getElem?_eq_some_iff.mp h1).1
          rw [List.length_append] at h3
          have ei : i = yvs.length := by
            have : i < yvs.length + 1 := h3
            omega
          subst ei
          rw [List.getElem?_append_right (Nat.le_refl _), Nat.sub_self] at h1
          rw [hyl1, List.getElem?_append_right (Nat.le_refl _), Nat.sub_self] at h2
          cases h1
          cases h2
          exact RPr.mono _ _ _ _ (s8.trans s9) rz
      have e7a := s7 _ _ e6a
      have nt7 : NTup (H7 a) := NTup.ins e7a
      have hpa : pd ≠ a := fun z => by rw [z, e6a] at hpd; cases hpd
      rw [jprsD_len] at hpl2
      walk_at "GO"
      exact k D pd _ ((f6.trans (Fr.same s7)).upd _) hD0 (Fr.none f6 hpa hpd) ⟨dx, .ref aq, ms, ps, upd_same, RTup.upd (RSeq.tup RRow.tup) (RSeq.mono RRow.mono) nt7 (RSeq.mono RRow.mono _ _ _ _ s7 r6A), (upd_ne hDa).trans (s7 _ _ e6D), by rw [hmsl, vecsD_len], fun i y d h1 h2 => RTup.upd RVec.tup RVec.mono nt7 (RVec.mono _ _ _ _ s7 (r6v i y d h1 h2)), (upd_ne hpa).trans e7, hpl2, fun i y d h1 h2 => RTup.upd (RSeq.tup RPr.tup) (RSeq.mono RPr.mono) nt7 (hpr2 i y d h1 h2)⟩
def sp_Job_rows (K : PySem.W.Frag) (C CN : Addr) : Sp := fun vs H Q _ => ∃ (a av ap n : Addr) (nd : NetD) (e : V) (w : Nat) (ah : List RowD) (ls : List Nat), vs = [.ref a, .ref n] ∧ IsJobA K C H a av ap nd ah ls nd.lay.length ∧ IsNet K CN H n nd e ∧ NetOk nd w ∧ (∀ r ∈ ah, RowOk nd w r) ∧ (∀ l ∈ ls, l < nd.emb.length) ∧ ah.length ≤ 1000 ∧ ls.length ≤ 1000 ∧
  ∀ v' H', Same H H' → RSeq false K (RRow K) H' v' (jobRows nd ah ls) → Q v' H'
theorem ok_Job_rows (T : Txt K mg) : FnOk P w K mg base CX0 2 T.a_Job_rows T.d_Job_rows ["self", "net"] (sp_Job_rows K T.c_Job T.c_Net) := by
  refine T.F_Job_rows.ok sc_Job_rows (fun vs H Q E h => ?_) (fun cdv A outer s H vs Q E hr h => ?_)
  · obtain ⟨_, _, _, _, _, _, _, _, _, rfl, _⟩ := h
    rfl
  · obtain ⟨a, av, ap, n, nd, e, wd, ah, ls, rfl, hJ, hN, ok, hah, hls, haz, hlz, k⟩ := h
    have cJ := T.C_Job
    have cN := T.C_Net
    have n2 := T.n_Job_vectors
    have n3 := T.n_Job_pairs
    have n4 := T.n_Net_out
    have hp0 : 0 < nd.p := by have := ok.p2; omega
    obtain ⟨dx, va, xs, ys, h0, rA, hxs, hxl, hxr, hys, hyl, hyr⟩ := hJ
    unfold jobF at h0
    obtain ⟨dxn, v1, v2, v3, v4, g0, hE, hSh, hLay, ⟨ao, ovs, rfl, hO1, hOl, hOr⟩⟩ := id hN
    unfold netF at g0
    have jok := fun (k : Nat) (hk : k < ls.length) => job_ok ok hah hls (n := nd.lay.length) (Nat.le_refl _) hk
    refine ⟨_, (pss_cons (ps_set (i := 2) sc_Job_rows.nd rfl (Or.inl rfl) (pe_lst pa_nil))
      (pss_cons (ps_for PassesOwn.never rfl (k_zipS (K := K) rfl (by rfl) T.z_zip (pa_cons (k_fld (K := K) rfl (pv 0) rfl) (pa_cons (k_fld (K := K) rfl (pv 0) rfl) pa_nil))) (k_tup (K := K) rfl rfl (pgs_cons (pg_name (i := 3) sc_Job_rows.nd rfl (Or.inl rfl)) (pgs_cons (pg_name (i := 4) sc_Job_rows.nd rfl (Or.inr rfl)) pgs_nil)))
      (pss_cons (ps_setLc (i := 5) (own := [("other", 6)]) (g := gName 6) (tt := tYes) rfl sc_Job_rows.nd rfl rfl (sw_true rfl rfl rfl (by decide +kernel)) (k_seqS (K := K) rfl (k_fld (K := K) rfl (pv 1) rfl)) (blkOk_by (own := [("other", 6)]) (by kernel_rfl)) (fun _ _ _ _ _ => (pg_name (i := 6) sc_Job_rows.nd rfl (by first | exact Or.inl rfl | exact Or.inr rfl))) (fun _ _ _ _ _ => pts_nil) (fun _ _ _ _ _ => (pe_op (k_addG (K := K) rfl) pe_int (pe_meth (pv 1) T.C_Net T.m_Net_rest (ok_Net_rest T) (hr.mono (by decide)) T.b_Net_rest .nil pass0 (pa_cons (pe_call (ok_product_sum T) (hr.mono (by decide)) (by rfl) T.g_product_sum T.F_product_sum.kp T.b_product_sum .nil pass0 (pa_cons (pv 6) (pa_cons (pv 4) pa_nil))) pa_nil)))))
      (pss_one (ps_expr (k_bm (K := K) rfl PySem.F.plainAttrs_list PySem.F.slot_list_append PySem.F.type_list_append mt_append (pv 2) (pa_cons (pe_tup (pa_cons (pv 3) (pa_cons (pe_callTy (k_tupS (K := K) rfl) (by rfl) T.z_tuple (by decide +kernel) (pa_cons (pv 5) pa_nil)) pa_nil))) pa_nil))))))
      (pss_one (ps_ret (pe_callTy (k_tupS (K := K) rfl) (by rfl) T.z_tuple (by decide +kernel) (pa_cons (pv 2) pa_nil)))))), ?_⟩
    refine go_start (σ' := [some (.ref a), some (.ref n), none, none, none, none, none]) rfl ?_
    try dsimp only [cxOf, Cx.nox, Cx.wish]
    walk_at "GO"
    rename_i D H1 hD s1 e1
    have f1 : Filled (RRow K) H H1 D ((jobRows nd ah ls).take 0) := ⟨hD, s1, [], e1, rfl, fun i y d h => by simp at h⟩
    have h01 := s1 _ _ h0
    clear e1
    walk_at "GO"
    refine l_zip (b1 := true) (b2 := true) ys xs (by omega) (fun i σ H' => ∃ (y3 y4 y5 : Option V), σ = [some (.ref a), some (.ref n), some (.ref D), y3, y4, y5, none] ∧ Filled (RRow K) H H' D ((jobRows nd ah ls).take i))
      (Sq.lst (s1 _ _ hys)) (Sq.lst (s1 _ _ hxs)) ⟨_, _, _, rfl, f1⟩ (fun i σ H' _ ⟨_, _, _, _, f⟩ => ⟨Sq.lst (f.same _ _ hys), Sq.lst (f.same _ _ hxs)⟩) ?_ ?_
    · clear f1 h01 s1 hD
      rintro i yv xv T' σ H' hi hy hx ⟨y3, y4, y5, rfl, f⟩ hT
      have hil : i < ls.length := by omega
      have sT := Same.new (o := .tup [yv, xv]) hT
      refine w_pair (Sq.tup upd_same) ?_
      have f := f.mono RRow.mono sT
      generalize upd H' T' (.tup [yv, xv]) = H5 at sT f ⊢
      have s5 := f.same
      have g5 := s5 _ _ g0
      have rx := RVec.mono _ _ _ _ s5 (hxr i xv _ hx (range_get hil))
      have ry := RSeq.mono RPr.mono _ _ _ _ s5 (hyr i yv _ hy (range_get hil))
      have hrow : (jobRows nd ah ls)[i]? = some ((jobSt nd ah ls nd.lay.length i).1, nd.out.map fun v => 1 + dot v (jobSt nd ah ls nd.lay.length i).2 % nd.p) := range_get hil
      obtain ⟨_, _, st3, st4⟩ := jok i hil
      generalize (jobSt nd ah ls nd.lay.length i).2 = x at rx hrow st3 st4
      generalize (jobSt nd ah ls nd.lay.length i).1 = pz at ry hrow
      obtain ⟨ms, eD, hmsl, _⟩ := f.at_
      have hO5 := s5.sq hO1
      walk_at "GO"
      refine c_ints ovs hO5 (nd.out.map fun v => 1 + dot v x % nd.p) (by rw [List.length_map, hOl]) (line_of (by have := ok.o12; omega)) (fun _ => rfl) (fun j y H6 N hj hy s6 hN2 => ?_) (fun D6 H6 hD6 s6 e6 => ?_)
      · have hd : nd.out[j]? = some (nd.out[j]'(by omega)) := List.getElem?_eq_getElem (by omega)
        have ho := ok.out _ (List.mem_of_getElem? hd)
        walk_at "GO"
        refine ⟨_, _, _, _, rfl, ⟨false, RVec.mono _ _ _ _ (s5.trans s6) (hOr j y _ hy hd)⟩, ⟨false, RVec.mono _ _ _ _ s6 rx⟩, by rw [ho.1, st3], ho.2.bd ok.p97, fun H7 s7 => ?_⟩
        refine ⟨n, nd, e, _, rfl, hN.mono ((s5.trans s6).trans s7), hp0, ?_⟩
        walk_at "GO"
        have en : nth (nd.out.map fun v => 1 + dot v x % nd.p) ((j : Nat) : Int) = 1 + dot (nd.out[j]'(by omega)) x % nd.p := nth_mapG (f := fun v => 1 + dot v x % nd.p) hd
        rw [← en]
        exact hN2 _ s7
      have eD6 := s6 _ _ eD
      walk_at "GO"
      rename_i t1 H7 ht1 s7 e7 t2 H8 ht2 s8 e8
      have f8 := f.mono RRow.mono ((s6.trans s7).trans s8)
      have rr : RRow K H8 (.ref t2) (pz, nd.out.map fun v => 1 + dot v x % nd.p) := ⟨t2, yv, .ref t1, rfl, Sq.tup e8, RSeq.mono RPr.mono _ _ _ _ ((s6.trans s7).trans s8) ry, ⟨t1, rfl, s8.sq (Sq.tup e7)⟩⟩
      obtain ⟨ms8, eD8, hmsl8, _⟩ := f8.at_
      obtain ⟨ms2, e', hl', fp⟩ := f8.push (RRow.tup _ _ _ _ (NTup.lst eD8) rr)
      have ems : ms2 = ms8 := by
        rw [eD8] at e'
        cases e'
        rfl
      subst ems
      have hms3 : ms2.length = i := by rw [hmsl8, List.length_take, jobRows_len]; omega
      refine w_append eD8 (line_of1 (by omega)) ?_
      walk_at "GO"
      refine ⟨_, _, _, rfl, ?_⟩
      rw [List.take_add_one, hrow]
      exact fp
    · rintro σ H5 ⟨y3, y4, y5, rfl, f⟩
      rw [hyl, List.take_of_length_le (by rw [jobRows_len]; omega)] at f
      obtain ⟨ms, eD, hmsl, hmr⟩ := f.at_
      walk_at "GO"
      rename_i t H6 ht s6 e6
      exact k _ _ (f.same.trans s6) ⟨t, ms, rfl, Sq.tup e6, hmsl, fun i y d h1 h2 => RRow.mono _ _ _ _ ((hide_same D H5).trans s6) (hmr i y d h1 h2)⟩

/-! ### rows in a batch -/
theorem fnImp {P : Program} {w : World} {K : PySem.W.Frag} {mg : Str → Option Value} {base : Heap} {CX : CXT} {k : Nat} {f : Addr} {fd : FuncData} {ps : List Str} {sp sp' : Sp} (F : FnOk P w K mg base CX k f fd ps sp) (h : ∀ vs H Q E, sp' vs H Q E → sp vs H Q E) : FnOk P w K mg base CX k f fd ps sp' :=
  ⟨fun vs H Q E z => F.len vs H Q E (h _ _ _ _ z), fun A outer s H args us vs Q E hr e0 hb r z => F.run A outer s H args us vs Q E hr e0 hb r (h _ _ _ _ z)⟩
section
variable {K : PySem.W.Frag} {σ : L2.St} {H : Hp} {tt : TT} {te : TE} {vs : List Nat} {Q : VK}
/-- a comprehension over pairs in a list or a tuple -/
theorem l_compGP {b : Bool} {a : Addr} {i1 i2 nn : Nat} (xs : List V) (hz : xs.length < sizeLine) (Sv : Addr → Nat → List V → Hp → Prop) (hx : Sq b K H a xs) (hnn : nn = 2) (hw : ∀ x y : V, wipe (((wipe σ vs).set i1 (some x)).set i2 (some y)) vs = wipe σ vs) (h0 : ∀ D, H D = none → Sv D 0 [] (upd H D (.lst []))) (hG : ∀ D i acc H', Sv D i acc H' → Sq b K H' a xs)
    (hs : ∀ (i : Nat) x H1 D acc (NT : VK) (NF : Hp → Prop), i < xs.length → xs[i]? = some x → H D = none → Sv D i acc H1 → H1 D = some (.lst acc) → acc.length ≤ i → (∀ y H5, H5 D = some (.lst acc) → Sv D (i + 1) (acc ++ [y]) (upd H5 D (.lst (acc ++ [y]))) → NT y H5) →
      (∀ H4, H4 D = some (.lst acc) → Sv D (i + 1) acc H4 → NF H4) → ∃ t u v, x = .ref t ∧ Sq false K H1 t [u, v] ∧ tt (((wipe σ vs).set i1 (some u)).set i2 (some v)) H1 fun b H4 => if b = true then te (((wipe σ vs).set i1 (some u)).set i2 (some v)) H4 NT else NF H4)
    (k : ∀ D H' ys, H D = none → Sv D xs.length ys H' → H' D = some (.lst ys) → ys.length ≤ xs.length → Q (.ref D) H') :
    ∃ a', V.ref a = .ref a' ∧ ((∃ xs, SqL K H a' xs) ∧ CompOk (Itl K a') (gTup K nn (gCons (gName i1) (gCons (gName i2) gNil))) tt te vs σ H Q ∨ (∃ xs, SqT K H a' xs) ∧ CompOk (Itt K a') (gTup K nn (gCons (gName i1) (gCons (gName i2) gNil))) tt te vs σ H Q) := by
  subst hnn
  refine ⟨a, rfl, ?_⟩
  cases b with
  | true =>
    refine .inl ⟨⟨xs, hx⟩, l_compG (walk_list (xs := xs)) hz Sv h0 hG (fun i x H1 H2 D acc NT NF hi hD st e1 hl hy hT hF => ?_) k⟩
    obtain ⟨e, ex⟩ := hy
    subst e
    obtain ⟨t, u, v, rfl, ht, h⟩ := hs i x _ D acc NT NF hi ex hD st e1 hl hT hF
    exact w_pair ht ⟨hw _ _, h⟩
  | false =>
    refine .inr ⟨⟨xs, hx⟩, l_compG (walk_tup (xs := xs)) hz Sv h0 hG (fun i x H1 H2 D acc NT NF hi hD st e1 hl hy hT hF => ?_) k⟩
    obtain ⟨e, ex⟩ := hy
    subst e
    obtain ⟨t, u, v, rfl, ht, h⟩ := hs i x _ D acc NT NF hi ex hD st e1 hl hT hF
    exact w_pair ht ⟨hw _ _, h⟩
end
theorem netSome {K : PySem.W.Frag} {C p : Addr} {H : Hp} {nd : NetD} {e : V} (h : IsNet K C H p nd e) (h0 : H p = none) : False := by
  obtain ⟨_, _, _, _, _, g, _⟩ := h
  rw [h0] at g
  cases g
theorem w_tyesB {σ : L2.St} {H : Hp} {QB : Bool → Hp → Prop} (q : QB true H) : tYes σ H QB := q
abbrev JobD := List RowD × List Int
def RJob (K : PySem.W.Frag) (H : Hp) (v : V) (d : JobD) : Prop := ∃ (t ar al : Addr) (b1 b2 : Bool), v = .ref t ∧ Sq false K H t [.ref ar, .ref al] ∧ RSeq b1 K (RRow K) H (.ref ar) d.1 ∧ Sq b2 K H al (d.2.map V.int)
theorem RJob.mono {K : PySem.W.Frag} {H H' : Hp} {v : V} {d : JobD} (s : Same H H') (h : RJob K H v d) : RJob K H' v d := by
  obtain ⟨t, ar, al, b1, b2, e, h1, h2, h3⟩ := h
  exact ⟨t, ar, al, b1, b2, e, s.sq h1, RSeq.mono RRow.mono _ _ _ _ s h2, s.sq h3⟩
def goodL (L : Nat) (ls : List Int) : Prop := ∀ x ∈ ls, 0 ≤ x ∧ x < (L : Int)
def FirstBadI (L : Nat) (js : List JobD) (x : Int) : Prop := ∃ (i j : Nat) (d : JobD), js[i]? = some d ∧ d.2[j]? = some x ∧ ¬ (0 ≤ x ∧ x < (L : Int)) ∧ (∀ i' d', i' < i → js[i']? = some d' → goodL L d'.2) ∧ ∀ j' y, j' < j → d.2[j']? = some y → 0 ≤ y ∧ y < (L : Int)
theorem FirstBadI.uniq {L : Nat} {js : List JobD} {x y : Int} (h : FirstBadI L js x) (g : FirstBadI L js y) : x = y := by
  obtain ⟨i, j, d, h1, h2, hx, h3, h4⟩ := h
  obtain ⟨i', j', d', g1, g2, gx, g3, g4⟩ := g
  rcases Nat.lt_trichotomy i i' with hi | rfl | hi
  · exact absurd (g3 i d hi h1 x (List.mem_of_getElem? h2)) hx
  · rw [h1] at g1
    cases g1
    rcases Nat.lt_trichotomy j j' with hj | rfl | hj
    · exact absurd (g4 j x hj h2) hx
    · rw [h2] at g2
      cases g2; rfl
    · exact absurd (h4 j' y hj g2) gx
  · exact absurd (h3 i' d' hi g1 y (List.mem_of_getElem? g2)) gx
theorem FirstBadI.not {L : Nat} {js : List JobD} {x : Int} (h : FirstBadI L js x) (g : ∀ d ∈ js, goodL L d.2) : False := by
  obtain ⟨i, j, d, h1, h2, hx, _⟩ := h
  exact hx (g d (List.mem_of_getElem? h1) x (List.mem_of_getElem? h2))
def lettersN (d : JobD) : List Nat := d.2.map Int.toNat
theorem lettersN_I {L : Nat} {d : JobD} (h : goodL L d.2) : natI (lettersN d) = d.2 := by
  unfold natI lettersN
  rw [List.map_map]
  conv => rhs; rw [← List.map_id d.2]
  refine List.map_congr_left fun x hx => ?_
  exact Int.toNat_of_nonneg (h x hx).1
theorem lettersN_lt {L : Nat} {d : JobD} (h : goodL L d.2) : ∀ l ∈ lettersN d, l < L := fun l hl => by
  obtain ⟨x, hx, rfl⟩ := List.mem_map.mp hl
  have := h x hx
  omega
/-- the jobs on the heap, the first i of them one layer further -/
def JobsAt (K : PySem.W.Frag) (C : Addr) (H : Hp) (nd : NetD) (as : List Addr) (js : List JobD) (n i : Nat) : Prop := ∀ (j : Nat) a d, as[j]? = some a → js[j]? = some d → ∃ av ap, IsJobA K C H a av ap nd d.1 (lettersN d) (if j < i then n + 1 else n)
theorem JobsAt.mono {K : PySem.W.Frag} {C : Addr} {H H' : Hp} {nd : NetD} {as : List Addr} {js : List JobD} {n i : Nat} (s : Same H H') (h : JobsAt K C H nd as js n i) : JobsAt K C H' nd as js n i := fun j a d h1 h2 => by
  obtain ⟨av, ap, h3⟩ := h j a d h1 h2
  exact ⟨av, ap, h3.mono s⟩
theorem JobsAt.step {K : PySem.W.Frag} {C : Addr} {H H' : Hp} {nd : NetD} {as : List Addr} {js : List JobD} {n i : Nat} {a av ap av' ap' : Addr} {d : JobD} (h : JobsAt K C H nd as js n i) (nod : as.Nodup) (ha : as[i]? = some a) (hd : js[i]? = some d)
    (h0 : IsJobA K C H a av ap nd d.1 (lettersN d) n) (f : Fr a H H') (h1 : IsJobA K C H' a av' ap' nd d.1 (lettersN d) (n + 1)) : JobsAt K C H' nd as js n (i + 1) := fun j b e g1 g2 => by
  by_cases hj : j = i
  · subst hj
    rw [ha] at g1
    rw [hd] at g2
    cases g1
    cases g2
    rw [if_pos (by omega)]
    exact ⟨_, _, h1⟩
  · obtain ⟨bv, bp, h3⟩ := h j b e g1 g2
    rw [show (if j < i + 1 then n + 1 else n) = if j < i then n + 1 else n by
      by_cases h : j < i
      · rw [if_pos h, if_pos (by omega)]
      · rw [if_neg h, if_neg (by omega)]]
    have nba : b ≠ a := fun z => hj (by
      have hjl := (List.getElem?_eq_some_iff.mp g1).1
      subst z
      exact (List.getElem?_inj hjl nod).mp (g1.trans ha.symm))
    obtain ⟨dx, va, xs, ys, k0, _⟩ := id h0
    obtain ⟨_, _, _, _, _, _, k2, _, _, k5, _⟩ := id h3
    refine ⟨bv, bp, h3.fr f (NTup.ins k0) nba (fun z => ?_) (fun z => ?_)⟩
    · rw [z, k0] at k2; cases k2
    · rw [z, k0] at k5; cases k5
def sp_batch (K : PySem.W.Frag) (C CN CL : Addr) : Sp := fun vs H Q E => ∃ (p ja : Addr) (nd : NetD) (e : V) (w : Nat) (b : Bool) (jvs : List V) (js : List JobD), vs = [.ref p, .ref ja] ∧ IsNet K CN H p nd e ∧ NetOk nd w ∧ Sq b K H ja jvs ∧ jvs.length = js.length ∧ (∀ (i : Nat) y d, jvs[i]? = some y → js[i]? = some d → RJob K H y d) ∧ js.length ≤ 100 ∧
  (∀ d ∈ js, (∀ r ∈ d.1, RowOk nd w r) ∧ d.1.length ≤ 1000 ∧ d.2.length ≤ 1000) ∧
  ((∀ d ∈ js, goodL nd.emb.length d.2) → ∀ v' H', Same H H' → RSeq false K (RSeq false K (RRow K)) H' v' (js.map fun d => jobRows nd d.1 (lettersN d)) → Q v' H') ∧ (∀ x, FirstBadI nd.emb.length js x → RaiseQ E H CL "letter" (.int x))
theorem okN_rows_in_batch (T : Txt K mg) : FnOk P w K mg base (L2N.CX P w) 5 T.a_rows_in_batch T.d_rows_in_batch ["net", "jobs"] (sp_batch K T.c_Job T.c_Net T.c_InvalidLetter) := by
  refine T.F_rows_in_batch.okN sc_rows_in_batch (fun vs H Q E h => ?_) (fun cdv A outer s H vs Q E hr h => ?_)
  · obtain ⟨_, _, _, _, _, _, _, _, rfl, _⟩ := h
    rfl
  · obtain ⟨p, ja, nd, e, wd, b, jvs, js, rfl, hN, ok, hJ, hJl, hJr, hjz, hjo, k1, k2⟩ := h
    have cJ := T.C_Job
    have cN := T.C_Net
    have n4 := T.n_Net_layers
    refine ⟨_, (pss_cons (ps_for (passes_of rfl) rfl (k_seqS (K := K) rfl (pv 1)) (k_tup (K := K) rfl rfl (pgs_cons (pg_name (i := 2) sc_rows_in_batch.nd rfl (Or.inl rfl)) (pgs_cons (pg_name (i := 3) sc_rows_in_batch.nd rfl (Or.inl rfl)) pgs_nil)))
      (pss_one (ps_for (passes_of rfl) rfl (k_seqS (K := K) rfl (pv 3)) (pg_name (i := 4) sc_rows_in_batch.nd rfl (Or.inl rfl))
      (pss_one (ps_if (pt_not (k_tru (K := K) rfl (pe_meth (pv 0) T.C_Net T.m_Net_is_letter (ok_Net_is_letter T) (hr.mono (by decide)) T.b_Net_is_letter .nil pass0 (pa_cons (pv 4) pa_nil)) (by intro _; rfl))) (pss_one (L2N.ps_raise rfl (L2N.takes_of rfl rfl rfl rfl) (pmk_oexN T.ox_InvalidLetter T.ic_InvalidLetter T.ti_InvalidLetter (ok_InvalidLetter___init__ T) (hr.mono (by decide)) T.b_InvalidLetter___init__ pass0 rfl T.gc_InvalidLetter (pa_cons (pv 4) pa_nil)))) pss_nil)))))
      (PSs.nox (pss_cons (ps_setLc (i := 5) (own := [("rows", 8), ("letters", 3)]) (g := gTup K 2 (gCons (gName 8) (gCons (gName 3) (gNil)))) (tt := tYes) rfl sc_rows_in_batch.nd rfl rfl (sw_true rfl rfl rfl (by decide +kernel)) (k_seqS (K := K) rfl (pv 1)) (blkOk_by (own := [("rows", 8), ("letters", 3)]) (by kernel_rfl)) (fun _ _ _ _ _ => (k_tup (K := K) rfl rfl (pgs_cons (pg_name (i := 8) sc_rows_in_batch.nd rfl (by first | exact Or.inl rfl | exact Or.inr rfl)) (pgs_cons (pg_name (i := 3) sc_rows_in_batch.nd rfl (by first | exact Or.inl rfl | exact Or.inr rfl)) pgs_nil)))) (fun _ _ _ _ _ => pts_nil) (fun _ _ _ _ _ => (pe_make T.M_Job (ok_Job___init__ T) (hr.mono (by decide)) rfl T.gc_Job T.b_Job___init__ .nil pass0 (pa_cons (pv 0) (pa_cons (pv 8) (pa_cons (pv 3) pa_nil))))))
      (pss_cons (ps_for PassesOwn.never rfl (pi_range1 rfl T.z_range (pa_cons (pe_callB (k_lenS (K := K) rfl) (by rfl) T.z_len (by decide +kernel) (pa_cons (k_fld (K := K) rfl (pv 0) rfl) pa_nil)) pa_nil)) (pg_name (i := 6) sc_rows_in_batch.nd rfl (Or.inl rfl))
      (pss_one (ps_for PassesOwn.never rfl (k_seqS (K := K) rfl (pv 5)) (pg_name (i := 7) sc_rows_in_batch.nd rfl (Or.inl rfl))
      (pss_one (ps_expr (pe_meth (pv 7) T.C_Job T.m_Job_go_through (ok_Job_go_through T) (hr.mono (by decide)) T.b_Job_go_through .nil pass0 (pa_cons (pv 0) (pa_cons (pv 6) pa_nil))))))))
      (pss_one (ps_ret (pe_callTy (k_tupS (K := K) rfl) (by rfl) T.z_tuple (by decide +kernel) (pa_cons (pe_lc (own := [("job", 7)]) (g := gName 7) (tt := tYes) rfl sc_rows_in_batch.nd (k_seqS (K := K) rfl (pv 5)) (blkOk_by (own := [("job", 7)]) (by kernel_rfl)) (fun _ _ _ _ _ => (pg_name (i := 7) sc_rows_in_batch.nd rfl (by first | exact Or.inl rfl | exact Or.inr rfl))) (fun _ _ _ _ _ => pts_nil) (fun _ _ _ _ _ => (pe_meth (pv 7) T.C_Job T.m_Job_rows (ok_Job_rows T) (hr.mono (by decide)) T.b_Job_rows .nil pass0 (pa_cons (pv 0) pa_nil)))) pa_nil)))))))), ?_⟩
    refine go_start (σ' := [some (.ref p), some (.ref ja), none, none, none, none, none, none, none]) rfl ?_
    try dsimp only [cxOf, Cx.nox, Cx.wish]
    walk_at "GO"
    refine l_seq (b := b) jvs (fun i σ H' => ∃ y2 y3 y4, σ = [some (.ref p), some (.ref ja), y2, y3, y4, none, none, none, none] ∧ Same H H' ∧ ∀ i' d, i' < i → js[i']? = some d → goodL nd.emb.length d.2) hJ ⟨none, none, none, rfl, Same.refl _, fun i' r h => absurd h (Nat.not_lt_zero _)⟩ (fun i σ H' _ ⟨_, _, _, _, s6, _⟩ => s6.sq hJ) ?_ ?_
    · rintro i x σ H6 hi hxi ⟨y2, y3, y4, rfl, s6, hgood⟩
      have hdi : js[i]? = some (js[i]'(by omega)) := List.getElem?_eq_getElem (by omega)
      generalize js[i]'(by omega) = d at hdi
      obtain ⟨t, ar, al, b1, b2, rfl, ht, hR, hL⟩ := (hJr i x d hxi hdi).mono s6
      refine w_pair ht ?_
      walk_at "GO"
      refine l_seq (b := b2) (d.2.map V.int) (fun j σ H' => ∃ y4, σ = [some (.ref p), some (.ref ja), some (.ref ar), some (.ref al), y4, none, none, none, none] ∧ Same H6 H' ∧ ∀ j' y, j' < j → d.2[j']? = some y → 0 ≤ y ∧ y < (nd.emb.length : Int)) hL ⟨_, rfl, Same.refl _, fun j' y h => absurd h (Nat.not_lt_zero _)⟩ (fun j σ H' _ ⟨_, _, s7, _⟩ => s7.sq hL) ?_ ?_
      · rintro j yv σ H7 hj hyj ⟨y4, rfl, s7, hg2⟩
        have hN7 := hN.mono (s6.trans s7)
        obtain ⟨dxn, w1, w2, w3, w4, hn0, _⟩ := id hN7
        unfold netF at hn0
        rw [List.length_map] at hj
        have hyd : d.2[j]? = some (d.2[j]'hj) := List.getElem?_eq_getElem hj
        rw [List.getElem?_map, hyd] at hyj
        cases hyj
        generalize d.2[j]'hj = y at hyd
        walk_at "GO"
        refine ⟨p, nd, e, y, rfl, hN7, ?_⟩
        by_cases hb : 0 ≤ y ∧ y ≤ (nd.emb.length : Int) - 1
        · rw [decide_eq_true hb]
          walk_at "GO"
          refine ⟨_, rfl, s7, fun j' z hj' hz => ?_⟩
          rcases Nat.lt_succ_iff_lt_or_eq.mp hj' with h | rfl
          · exact hg2 j' z h hz
          · rw [hyd] at hz; cases hz; omega
        · rw [decide_eq_false hb]
          walk_at "GO"
          exact w_raiseV T.ox_InvalidLetter T.nf_InvalidLetter rfl fun d' H' hd s8 e8 => k2 y ⟨i, j, d, hdi, hyd, by omega, hgood, hg2⟩ d' H' (none_back (s6.trans s7) hd) ((s6.trans s7).trans s8) e8
      · rintro σ H7 ⟨y4, rfl, s7, hg2⟩
        walk_at "GO"
        refine ⟨_, _, _, rfl, s6.trans s7, fun i' d' hi' hr2 => ?_⟩
        rcases Nat.lt_succ_iff_lt_or_eq.mp hi' with h | rfl
        · exact hgood i' d' h hr2
        · rw [hdi] at hr2
          cases hr2
          intro y hy
          obtain ⟨j', hj', rfl⟩ := List.mem_iff_getElem.mp hy
          exact hg2 j' _ (by rw [List.length_map]; exact hj') (List.getElem?_eq_getElem hj')
    · rintro σ H1 ⟨y2, y3, y4, rfl, s1, hgood⟩
      have hall : ∀ d ∈ js, goodL nd.emb.length d.2 := fun d hd => by
        obtain ⟨j', hj', rfl⟩ := List.mem_iff_getElem.mp hd
        exact hgood j' _ (by omega) (List.getElem?_eq_getElem hj')
      have k := k1 hall
      clear k1 k2 hgood
      have hN1 := hN.mono s1
      have hJ1 := s1.sq hJ
      walk_at "GO"
      -- the work
      refine l_compGP jvs (line_of (by omega)) (fun D i acc H' => Same H1 H' ∧ D ≠ p ∧ H' D = some (.lst acc) ∧ ∃ as : List Addr, acc = as.map V.ref ∧ as.length = i ∧ as.Nodup ∧ (∀ a ∈ as, H1 a = none) ∧ ∀ (j : Nat) a d, as[j]? = some a → js[j]? = some d → ∃ av ap, av ≠ D ∧ ap ≠ D ∧ IsJobA K T.c_Job H' a av ap nd d.1 (lettersN d) 0) hJ1 rfl (fun _ _ => rfl)
        (fun D hD => ⟨Same.new hD, fun z => by rw [z] at hD; exact netSome hN1 hD, upd_same, [], rfl, rfl, List.nodup_nil, List.forall_mem_nil _, fun j a d h => by simp at h⟩)
        (fun D i acc H' ⟨s, _⟩ => s.sq hJ1) (fun i x H2 D acc NT NF hi hxi hD ⟨s2, hDp, hD2, as, eas, hasl, hnod, hfr, hjb⟩ e2 hl hT hF => ?_) (fun W H2 ys hW ⟨s2, hWp, hW2, as, eas, hasl, hnod, hfr, hjb⟩ e2 hl => ?_)
      · have hdi : js[i]? = some (js[i]'(by omega)) := List.getElem?_eq_getElem (by omega)
        generalize js[i]'(by omega) = d at hdi
        have hdm := List.mem_of_getElem? hdi
        obtain ⟨t, ar, al, b1, b2, rfl, ht, hR, hL⟩ := (hJr i x d hxi hdi).mono (s1.trans s2)
        obtain ⟨o1, o2, o3⟩ := hjo d hdm
        have hgd := hall d hdm
        refine ⟨t, _, _, rfl, ht, ?_⟩
        walk_at "GO"
        refine w_tyesB ?_
        rw [if_pos rfl]
        walk_at "GO"
        intro a dx ha hdx hne
        have sB : Same H2 (upd (upd H2 dx (.own a)) a (.ins T.c_Job dx [])) := (Same.new hdx).trans (Same.new (by rw [upd_ne (Ne.symm hne)]; exact ha))
        refine ⟨a, dx, p, ar, al, nd, e, wd, b1, b2, d.1, lettersN d, rfl, upd_same, hN1.mono (s2.trans sB), ok, RSeq.mono RRow.mono _ _ _ _ sB hR, by rw [lettersN_I hgd]; exact sB.sq hL, o1, lettersN_lt hgd, o2, by unfold lettersN; rw [List.length_map]; exact o3, fun av ap H6 f6 hav hap hJ6 => ⟨rfl, ?_⟩⟩
        have s6 : Same H2 H6 := fun c o hc => f6 _ _ (ne_of_none hc ha) (sB _ _ hc)
        have hD6 := s6 _ _ hD2
        have hDB := sB _ _ hD2
        have ha6 : ∃ o, H6 a = some o := by obtain ⟨_, _, _, _, g, _⟩ := hJ6; exact ⟨_, g⟩
        have haD : a ≠ D := fun z => by rw [z, hD2] at ha; cases ha
        have navD : av ≠ D := fun z => by rw [z, hDB] at hav; cases hav
        have napD : ap ≠ D := fun z => by rw [z, hDB] at hap; cases hap
        have ntD : NTup (H6 D) := NTup.lst hD6
        have fD : Fr D H6 (upd H6 D (.lst (acc ++ [.ref a]))) := (Fr.refl _ _).upd _
        have hsome : ∀ c ∈ as, ∃ o, H2 c = some o := fun c hc => by
          obtain ⟨j, hj, rfl⟩ := List.mem_iff_getElem.mp hc
          obtain ⟨_, _, _, _, _, _, _, _, g, _⟩ := hjb j _ _ (List.getElem?_eq_getElem hj) (List.getElem?_eq_getElem (by omega : j < js.length))
          exact ⟨_, g⟩
        refine hT _ H6 hD6 ⟨Same.mut (s2.trans s6) hD, hDp, upd_same, as ++ [a], by rw [eas, List.map_append]; rfl, by rw [List.length_append, hasl]; rfl, ?_, fun c hc => ?_, fun j c d' h1 h2 => ?_⟩
        · rw [List.nodup_append]
          refine ⟨hnod, List.nodup_cons.mpr ⟨List.not_mem_nil, List.nodup_nil⟩, fun c hc c' hc' => ?_⟩
          rw [List.mem_singleton.mp hc']
          intro z
          obtain ⟨o, ho⟩ := hsome c hc
          rw [z, ha] at ho
          cases ho
        · rcases List.mem_append.mp hc with h | h
          · exact hfr c h
          · rw [List.mem_singleton.mp h]
            exact none_back s2 ha
        · by_cases hj : j < i
          · rw [List.getElem?_append_left (by omega)] at h1
            obtain ⟨av', ap', m1, m2, hJ'⟩ := hjb j c d' h1 h2
            have hJ6' := hJ'.mono s6
            have hcD : c ≠ D := fun z => by
              obtain ⟨_, _, _, _, g, _⟩ := hJ6'
              rw [z, hD6] at g
              cases g
            exact ⟨av', ap', m1, m2, hJ6'.fr fD ntD hcD m1 m2⟩
          · have hj1 := (List.getElem?_eq_some_iff.mp h1).1
            rw [List.length_append] at hj1
            have ej : j = i := by
              have : j < as.length + 1 := hj1
              omega
            subst ej
            rw [List.getElem?_append_right (by omega), hasl, Nat.sub_self] at h1
            cases h1
            rw [hdi] at h2
            cases h2
            exact ⟨av, ap, navD, napD, hJ6.fr fD ntD haD navD napD⟩
      · subst eas
        have hjlen : as.length = js.length := by omega
        have hJA : JobsAt K T.c_Job H2 nd as js 0 0 := fun j a d h1 h2 => by
          obtain ⟨av, ap, _, _, h⟩ := hjb j a d h1 h2
          exact ⟨av, ap, by rw [if_neg (Nat.not_lt_zero _)]; exact h⟩
        have hp1 : ∃ o, H1 p = some o := by obtain ⟨_, _, _, _, _, g, _⟩ := hN1; exact ⟨_, g⟩
        obtain ⟨op, hop⟩ := hp1
        clear hjb e2 hl hW
        obtain ⟨dxn, w1, w2, w3, w4, hn0, _, _, ⟨al3, lvs3, rfl, hL31, hL3l, _⟩, _⟩ := id (hN1.mono s2)
        unfold netF at hn0
        walk_at "GO"
        refine l_range (fun n σ H' => ∃ y6 y7, σ = [some (.ref p), some (.ref ja), y2, y3, y4, some (.ref W), y6, y7, none] ∧ Same H1 H' ∧ H' W = some (.lst (as.map V.ref)) ∧ JobsAt K T.c_Job H' nd as js n 0)
          (by have := ok.l3; omega) (by have := ok.l3; omega) ⟨none, none, rfl, s2, hW2, hJA⟩ ?_ ?_
        · clear hJA hW2 s2 hn0 hL31
          rintro n σ H3 hn ⟨y6, y7, rfl, s3, hW3, hJA3⟩
          walk_at "GO"
          refine l_seq (b := true) (as.map V.ref) (fun i σ H' => ∃ y7, σ = [some (.ref p), some (.ref ja), y2, y3, y4, some (.ref W), some (.int (n : Nat)), y7, none] ∧ Same H1 H' ∧ H' W = some (.lst (as.map V.ref)) ∧ JobsAt K T.c_Job H' nd as js n i)
            (Sq.lst hW3) ⟨_, rfl, s3, hW3, hJA3⟩ (fun i σ H' _ ⟨_, _, _, h, _⟩ => Sq.lst h) ?_ ?_
          · clear hJA3 hW3 s3
            rintro i x σ H4 hi hxi ⟨y7, rfl, s4, hW4, hJA4⟩
            rw [List.length_map] at hi
            have hai : as[i]? = some (as[i]'hi) := List.getElem?_eq_getElem hi
            rw [List.getElem?_map, hai] at hxi
            cases hxi
            generalize as[i]'hi = a at hai
            have hdi : js[i]? = some (js[i]'(by omega)) := List.getElem?_eq_getElem (by omega)
            generalize js[i]'(by omega) = d at hdi
            have hdm := List.mem_of_getElem? hdi
            obtain ⟨o1, o2, o3⟩ := hjo d hdm
            have hgd := hall d hdm
            obtain ⟨av, ap, hJi⟩ := hJA4 i a d hai hdi
            rw [if_neg (Nat.lt_irrefl _)] at hJi
            obtain ⟨dx, va, xs', ys', q0, _⟩ := id hJi
            unfold jobF at q0
            have ha1 := hfr a (List.mem_of_getElem? hai)
            have hWa : W ≠ a := fun z => by rw [z, q0] at hW4; cases hW4
            walk_at "GO"
            refine ⟨a, av, ap, p, nd, e, wd, d.1, lettersN d, n, rfl, hJi, hN1.mono s4, ok, o1, lettersN_lt hgd, o2, by unfold lettersN; rw [List.length_map]; exact o3, by omega, ne_of_none hop ha1, fun av' ap' H6 f6 hav' hap' hJ6 => ?_⟩
            walk_at "GO"
            exact ⟨_, rfl, fun c o hc => f6 _ _ (ne_of_none hc ha1) (s4 _ _ hc), f6 _ _ hWa hW4, hJA4.step hnod hai hdi hJi f6 hJ6⟩
          · clear hJA3 hW3 s3
            rintro σ H4 ⟨y7, rfl, s4, hW4, hJA4⟩
            walk_at "GO"
            refine ⟨_, _, rfl, s4, hW4, fun j a d h1 h2 => ?_⟩
            obtain ⟨av, ap, h⟩ := hJA4 j a d h1 h2
            rw [if_pos (by rw [List.length_map]; exact (List.getElem?_eq_some_iff.mp h1).1)] at h
            exact ⟨av, ap, by rw [if_neg (Nat.not_lt_zero _)]; exact h⟩
        · clear hJA hW2 s2 hn0 hL31
          rintro σ H3 ⟨y6, y7, rfl, s3, hW3, hJA3⟩
          rw [show ((lvs3.length : Nat) : Int).toNat = nd.lay.length by omega] at hJA3
          have hW3' : Sq true K H3 W (as.map V.ref) := Sq.lst hW3
          walk_at "GO"
          refine c_rep (R := RSeq false K (RRow K)) (RSeq.mono RRow.mono) (RSeq.tup RRow.tup) (as.map V.ref) hW3' (js.map fun d => jobRows nd d.1 (lettersN d)) (by rw [List.length_map, List.length_map, hjlen]) (line_of (by rw [List.length_map]; omega)) (fun _ => rfl) (fun i x d' H4 N hi hxi hd s4 hN2 => ?_) (fun D H4 zs hD s4 e4 hzl hzr => ?_)
          · rw [List.length_map] at hi
            have hai : as[i]? = some (as[i]'hi) := List.getElem?_eq_getElem hi
            rw [List.getElem?_map, hai] at hxi
            cases hxi
            generalize as[i]'hi = a at hai
            have hdi : js[i]? = some (js[i]'(by omega)) := List.getElem?_eq_getElem (by omega)
            generalize js[i]'(by omega) = d at hdi
            rw [List.getElem?_map, hdi] at hd
            cases hd
            have hdm := List.mem_of_getElem? hdi
            obtain ⟨o1, o2, o3⟩ := hjo d hdm
            have hgd := hall d hdm
            obtain ⟨av, ap, hJi⟩ := (hJA3.mono s4) i a d hai hdi
            rw [if_neg (Nat.not_lt_zero _)] at hJi
            obtain ⟨dx, va, xs', ys', q0, _⟩ := id hJi
            unfold jobF at q0
            walk_at "GO"
            refine ⟨a, av, ap, p, nd, e, wd, d.1, lettersN d, rfl, hJi, hN1.mono (s3.trans s4), ok, o1, lettersN_lt hgd, o2, by unfold lettersN; rw [List.length_map]; exact o3, fun v' H5 s5 r5 => ?_⟩
            exact hN2 _ _ s5 r5
          walk_at "GO"
          rename_i t H5 ht s5 e5
          exact k _ _ (((s1.trans s3).trans s4).trans s5) ⟨t, zs, rfl, Sq.tup e5, hzl, fun i y d h1 h2 => RSeq.mono RRow.mono _ _ _ _ s5 (hzr i y d h1 h2)⟩
theorem ok_rows_in_batch (T : Txt K mg) : FnOk P w K mg base CX0 5 T.a_rows_in_batch T.d_rows_in_batch ["net", "jobs"] (fun vs H Q _ => sp_batch K T.c_Job T.c_Net T.c_InvalidLetter vs H Q (fun _ _ _ => False)) := toCX0 (okN_rows_in_batch T)

theorem make_same {H : Hp} {x dx : Addr} {o o' : HO} (hx : H x = none) (hdx : H dx = none) : Same H (hide x (upd (upd H dx o) x o')) := fun b u e => by
  rw [hide_upd, hide_ne (ne_of_none e hx), upd_ne (ne_of_none e hdx)]
  exact e
theorem cutV_ints {ns : List Int} {a b : Int} (h0 : 0 ≤ a) (h : a ≤ b) (hb : b ≤ ns.length) : cutV (ns.map V.int) (some a) (some b) = ((ns.drop a.toNat).take (b.toNat - a.toNat)).map V.int := by
  rw [cutV_int h0 h (by rw [List.length_map]; exact hb), List.map_take, List.map_drop]

theorem RLay.x {K : PySem.W.Frag} {H : Hp} {v : V} {L : List (List Mat)} (h : RSeq false K (RSeq false K (RMat K)) H v L) : RLayX K H v L := by
  obtain ⟨a, vs, e, h1, h2, h3⟩ := h
  refine ⟨false, a, vs, e, h1, h2, fun i y x e1 e2 => ?_⟩
  obtain ⟨a', vs', e', h1', h2', h3'⟩ := h3 i y x e1 e2
  exact ⟨false, a', vs', e', h1', h2', fun i y x e1 e2 => (h3' i y x e1 e2).x⟩

/-! ### a net made of the law's parts -/
theorem told_ofE {K : PySem.W.Frag} {C : Addr} {H1 : Hp} {nd : NetD} {w : Nat} (ok : NetOk nd w) (hpr : nd.p ∈ primes) {v1 v2 v3 v4 e : V} {x dx : Addr} (hx : H1 x = none) (hdx : H1 dx = none) {Q : VK} {E : XK}
    (r1 : RMat K H1 v1 nd.emb) (r2 : RVec false K H1 v2 nd.sh) (r3 : RSeq false K (RSeq false K (RMat K)) H1 v3 nd.lay) (r4 : RMat K H1 v4 nd.out) (q : ∀ H', Same H1 H' → IsNet K C H' x nd e → Q .non H') :
    sp_Net___init__ K C [.ref x, .int nd.p, v1, v2, v3, v4, e] (upd (upd H1 dx (.own x)) x (.ins C dx [])) Q E := by
  have s := make_same (o := .own x) (o' := .ins C dx []) hx hdx
  have := ok.e12
  have := ok.o12
  have := ok.l3
  refine ⟨x, dx, nd, v1, v2, v3, v4, e, rfl, upd_same, hpr, RMatX.mono _ _ _ _ s r1.x, RVecX.mono _ _ _ _ s ⟨false, r2⟩, RLayX.mono _ _ _ _ s (RLay.x r3), RMatX.mono _ _ _ _ s r4.x, by omega, by omega, by omega, fun L hL => ?_, fun H' s' r => q H' ((s.trans s').trans (hide_same _ _)) r⟩
  obtain ⟨h5, hm⟩ := ok.lay L hL
  have := ok.w4
  exact ⟨by omega, fun M hM => by rw [(hm M hM).1]; omega⟩

/-! ### the heap without some cells -/
def hs : List Addr → Hp → Hp
  | [], H => H
  | a :: S, H => hide a (hs S H)
theorem hs_same : ∀ (S : List Addr) (H : Hp), Same (hs S H) H
  | [], H => Same.refl H
  | a :: S, H => (hide_same a (hs S H)).trans (hs_same S H)
theorem hs_at {a : Addr} {H : Hp} : ∀ {S : List Addr}, a ∈ S → hs S H a = none
  | b :: S, h => by
    show hide b (hs S H) a = none
    by_cases e : a = b
    · rw [e]; exact hide_at _ _
    · rw [hide_ne e]
      exact hs_at ((List.mem_cons.mp h).resolve_left e)
theorem hs_ne {a : Addr} {H : Hp} : ∀ {S : List Addr}, a ∉ S → hs S H a = H a
  | [], _ => rfl
  | b :: S, h => by
    show hide b (hs S H) a = H a
    rw [hide_ne (fun e => h (by rw [e]; exact List.mem_cons_self))]
    exact hs_ne fun q => h (List.mem_cons_of_mem _ q)
theorem hs_mono {H H' : Hp} (s : Same H H') : ∀ S : List Addr, Same (hs S H) (hs S H')
  | [] => s
  | _ :: S => hide_mono (hs_mono s S)
/-- all but some cells stand -/
def FrS (S : List Addr) (H H' : Hp) : Prop := Same (hs S H) H'
theorem FrS.hs {S : List Addr} {H H' : Hp} (f : FrS S H H') : Same (hs S H) (hs S H') := fun b o e => by
  have hb : b ∉ S := fun h => by rw [hs_at h] at e; cases e
  rw [hs_ne hb]
  exact f b o e
theorem FrS.same {S : List Addr} {H H' : Hp} (s : Same H H') : FrS S H H' := (hs_same S H).trans s
theorem FrS.trans {S : List Addr} {H H' H'' : Hp} (f : FrS S H H') (g : FrS S H' H'') : FrS S H H'' := f.hs.trans g
theorem FrS.of {S : List Addr} {a : Addr} {H H' : Hp} (f : Fr a H H') (h : a ∈ S) : FrS S H H' := fun b o e => by
  have hb : b ∉ S := fun q => by rw [hs_at q] at e; cases e
  rw [hs_ne hb] at e
  exact f b o (fun z => hb (z ▸ h)) e
theorem FrS.upd {S : List Addr} {a : Addr} {H H' : Hp} (f : FrS S H H') (o : HO) (h : a ∈ S) : FrS S H (L2.upd H' a o) := f.trans (FrS.of ((Fr.refl _ _).upd o) h)
theorem nt_hs {S : List Addr} {a : Addr} {H : Hp} (h : NTup (H a)) : NTup (hs S H a) := by
  by_cases q : a ∈ S
  · rw [hs_at q]; trivial
  · rw [hs_ne q]; exact h
theorem rep_hs {α : Type} {R : Rep α} (ht : RTup R) {H : Hp} {v : V} {x : α} (r : R H v x) : ∀ {S : List Addr}, (∀ a ∈ S, NTup (H a)) → R (hs S H) v x
  | [], _ => r
  | a :: S, h => ht _ _ _ _ (nt_hs (h a List.mem_cons_self)) (rep_hs ht r fun b hb => h b (List.mem_cons_of_mem _ hb))
theorem sq_hs {S : List Addr} {H : Hp} {b : Bool} {K : PySem.W.Frag} {a : Addr} {xs : List V} (n : a ∉ S) (h : Sq b K H a xs) : Sq b K (hs S H) a xs := by
  have e : hs S H a = H a := hs_ne n
  cases b with
  | true =>
    have h : SqL K H a xs := h
    rcases h with (h | ⟨o, h⟩) | h
    · exact .inl (.inl (e.trans h))
    · exact .inl (.inr ⟨o, e.trans h⟩)
    · exact .inr h
  | false =>
    have h : SqT K H a xs := h
    rcases h with (h | ⟨o, h⟩) | h
    · exact .inl (.inl (e.trans h))
    · exact .inl (.inr ⟨o, e.trans h⟩)
    · exact .inr h
theorem seq_hs {α : Type} {R : Rep α} (ht : RTup R) {S : List Addr} {H : Hp} {b : Bool} {K : PySem.W.Frag} {a : Addr} {ds : List α} (n : a ∉ S) (h : ∀ c ∈ S, NTup (H c)) (r : RSeq b K R H (.ref a) ds) : RSeq b K R (hs S H) (.ref a) ds := by
  obtain ⟨_, vs, e, h1, h2, h3⟩ := r
  cases e
  exact ⟨a, vs, rfl, sq_hs n h1, h2, fun i y x e1 e2 => rep_hs ht (h3 i y x e1 e2) h⟩
theorem net_hs {K : PySem.W.Frag} {C p : Addr} {S : List Addr} {H : Hp} {nd : NetD} {e : V} (n : p ∉ S) (hn : ∀ a ∈ S, NTup (H a)) (h : IsNet K C H p nd e) : IsNet K C (hs S H) p nd e := by
  obtain ⟨dx, v1, v2, v3, v4, h0, h1, h2, h3, h4⟩ := h
  exact ⟨dx, v1, v2, v3, v4, (hs_ne n).trans h0, rep_hs RMat.tup h1 hn, rep_hs RVec.tup h2 hn, rep_hs (RSeq.tup (RSeq.tup RMat.tup)) h3 hn, rep_hs RMat.tup h4 hn⟩
theorem KD.fr {K : PySem.W.Frag} {nd : NetD} {H H' : Hp} {kd t : Addr} {N : Nat} (f : Fr t H H') (n : kd ≠ t) (hn : NTup (H t)) (h : KD K nd H kd N) : KD K nd H' kd N := by
  obtain ⟨kvs, h1, h2, h3⟩ := h
  exact ⟨kvs, f _ _ n h1, h2, fun pre l v e => Fr.rep RRow.mono RRow.tup f hn (h3 pre l v e)⟩
theorem IsPool.fr {H H' : Hp} {p t : Addr} (f : Fr t H H') (n : p ≠ t) (h : IsPool H p) : IsPool H' p := by
  obtain ⟨ns, h1, h2⟩ := h
  exact ⟨ns, f _ _ n h1, h2⟩
/-- values beside data, one by one -/
def RA {δ : Type} (P : V → δ → Prop) (vs : List V) (ds : List δ) : Prop := vs.length = ds.length ∧ ∀ (i : Nat) y d, vs[i]? = some y → ds[i]? = some d → P y d
theorem RA.nil {δ : Type} {P : V → δ → Prop} : RA P [] [] := ⟨rfl, fun i y d h => by simp at h⟩
theorem RA.one {δ : Type} {P : V → δ → Prop} {v : V} {d : δ} (h : P v d) : RA P [v] [d] := ⟨rfl, fun i y e h1 h2 => by
  match i, h1, h2 with
  | 0, h1, h2 => cases h1; cases h2; exact h
  | i + 1, h1, _ => simp at h1⟩
theorem RA.app {δ : Type} {P : V → δ → Prop} {vs vs' : List V} {ds ds' : List δ} (h : RA P vs ds) (h' : RA P vs' ds') : RA P (vs ++ vs') (ds ++ ds') := by
  refine ⟨by rw [List.length_append, List.length_append, h.1, h'.1], fun i y d h1 h2 => ?_⟩
  have hl := h.1
  by_cases hi : i < vs.length
  · rw [List.getElem?_append_left hi] at h1
    rw [List.getElem?_append_left (by omega)] at h2
    exact h.2 i y d h1 h2
  · rw [List.getElem?_append_right (by omega)] at h1
    rw [List.getElem?_append_right (by omega), ← hl] at h2
    exact h'.2 _ y d h1 h2
theorem RA.take {δ : Type} {P : V → δ → Prop} {vs : List V} {ds : List δ} (h : RA P vs ds) (n : Nat) : RA P (vs.take n) (ds.take n) := by
  refine ⟨by rw [List.length_take, List.length_take, h.1], fun i y d h1 h2 => ?_⟩
  have hi := (List.getElem?_eq_some_iff.mp h1).1
  rw [List.length_take] at hi
  rw [List.getElem?_take_of_lt (by omega)] at h1 h2
  exact h.2 i y d h1 h2
theorem RA.drop {δ : Type} {P : V → δ → Prop} {vs : List V} {ds : List δ} (h : RA P vs ds) (n : Nat) : RA P (vs.drop n) (ds.drop n) := by
  refine ⟨by rw [List.length_drop, List.length_drop, h.1], fun i y d h1 h2 => ?_⟩
  rw [List.getElem?_drop] at h1 h2
  exact h.2 _ y d h1 h2
theorem RA.imp {δ : Type} {P P' : V → δ → Prop} {vs : List V} {ds : List δ} (h : RA P vs ds) (q : ∀ y d, P y d → P' y d) : RA P' vs ds := ⟨h.1, fun i y d h1 h2 => q y d (h.2 i y d h1 h2)⟩
theorem RA.map {δ ε : Type} {P : V → ε → Prop} {f : δ → ε} {vs : List V} {ds : List δ} (h : RA (fun y d => P y (f d)) vs ds) : RA P vs (ds.map f) := by
  refine ⟨by rw [List.length_map]; exact h.1, fun i y d h1 h2 => ?_⟩
  rw [List.getElem?_map] at h2
  cases e : ds[i]? with
  | none => rw [e] at h2; cases h2
  | some d' => rw [e] at h2; cases h2; exact h.2 i y d' h1 e

def sp_L_as_net (K : PySem.W.Frag) (CN : Addr) : Sp := fun vs H Q _ => ∃ (v e : V) (nd : NetD) (w : Nat), vs = [v] ∧ RNetE K e H v nd ∧ NetOk nd w ∧ nd.p ∈ primes ∧ ∀ q H', H q = none → Same H H' → IsNet K CN H' q nd e → Q (.ref q) H'
theorem ok_L_as_net (T : Txt K mg) : FnOk P w K mg base CX0 5 T.a_L_as_net T.d_L_as_net ["_law_net_here"] (sp_L_as_net K T.c_Net) := by
  refine T.F_L_as_net.ok sc_L_as_net (fun vs H Q E h => ?_) (fun cdv A outer s H vs Q E hr h => ?_)
  · obtain ⟨_, _, _, _, rfl, _⟩ := h
    rfl
  · obtain ⟨v, e, nd, wd, rfl, rN, ok, hpm, k⟩ := h
    obtain ⟨an, v1, v2, v3, v4, rfl, hN1, r1, r2, r3, r4⟩ := id rN
    refine ⟨_, (pss_one (ps_ret (pe_make T.M_Net (ok_Net___init__ T) (hr.mono (by decide)) rfl T.gc_Net T.b_Net___init__ .nil pass0 (pa_cons (pe_ix (k_ix (K := K) rfl) (pv 0) pe_int (fun _ _ => rfl)) (pa_cons (pe_ix (k_ix (K := K) rfl) (pv 0) pe_int (fun _ _ => rfl)) (pa_cons (pe_ix (k_ix (K := K) rfl) (pv 0) pe_int (fun _ _ => rfl)) (pa_cons (pe_ix (k_ix (K := K) rfl) (pv 0) pe_int (fun _ _ => rfl)) (pa_cons (pe_ix (k_ix (K := K) rfl) (pv 0) pe_int (fun _ _ => rfl)) (pa_cons (pe_ix (k_ix (K := K) rfl) (pv 0) pe_int (fun _ _ => rfl)) pa_nil))))))))), ?_⟩
    refine go_start (σ' := [some (.ref an)]) rfl ?_
    try dsimp only [cxOf, Cx.nox, Cx.wish]
    walk_at "GO"
    refine w_ix hN1 (atI_nat (j := 5) rfl) ?_
    walk_at "GO"
    intro q dx hq hdx hne
    exact told_ofE ok hpm hq hdx r1 r2 r3 r4 fun H1 s1 hN => ⟨rfl, k q H1 hq s1 hN⟩
theorem SmC.pair {K : PySem.W.Frag} {H : Hp} {α β : Type} {R R' : Rep α} {S S' : Rep β} {n : Nat} {x y : V} {p : α × β} (hR : ∀ x y, R H x p.1 → R' H y p.1 → SmC K H n x y) (hS : ∀ x y, S H x p.2 → S' H y p.2 → SmC K H n x y) (h1 : RPair K R S H x p) (h2 : RPair K R' S' H y p) : SmC K H (n + 1) x y := by
  obtain ⟨a, x1, x2, rfl, hx, r1, r2⟩ := h1
  obtain ⟨a', y1, y2, rfl, hy, q1, q2⟩ := h2
  refine .inr ⟨a, a', false, _, _, rfl, rfl, hx, hy, rfl, by show 2 ≤ 100000; omega, fun i x' y' e1 e2 => ?_⟩
  match i, e1, e2 with
  | 0, e1, e2 => cases e1; cases e2; exact hR _ _ r1 q1
  | 1, e1, e2 => cases e1; cases e2; exact hS _ _ r2 q2
  | i + 2, e1, _ => simp at e1
theorem SmC.row {K : PySem.W.Frag} {H : Hp} {nd : NetD} {w : Nat} (ok : NetOk nd w) {x y : V} {r : RowD} (hr : RowOk nd w r) (h1 : RRow K H x r) (h2 : RRow K H y r) : SmC K H 4 x y := by
  obtain ⟨l1, l2, l3⟩ := hr
  have := ok.l3
  have := ok.o12
  have := ok.w4
  refine SmC.pair (fun x y a b => SmC.seq (by omega) (fun x y d hd a b => SmC.pair (fun x y a b => SmC.vec ?_ a b) (fun x y a b => SmC.vec ?_ a b) a b) a b) (fun x y a b => SmC.vec (by omega) a b) h1 h2
  · rw [(l2 d hd).1.1]; omega
  · rw [(l2 d hd).2.1]; omega
theorem w_catSS {K : PySem.W.Frag} {H : Hp} {Q : VK} {l b : Addr} {xs zs : List V} (h1 : H l = some (.lst xs)) (h2 : H b = some (.lst zs)) (hz : xs.length + zs.length ≤ sizeLine) (q : ∀ p H', H p = none → Same H H' → H' p = some (.lst (xs ++ zs)) → Q (.ref p) H') : rAddG K (.ref l) (.ref b) H Q :=
  w_catLL h1 h2 hz fun p hp => q p _ hp (Same.new hp) upd_same
theorem w_slL {K : PySem.W.Frag} {H : Hp} {Q : VK} {a : Addr} {xs ys : List V} {lo hi : Option Int} (h : H a = some (.lst xs)) (e : cutV xs lo hi = ys) (q : ∀ p H', H p = none → Same H H' → H' p = some (.lst ys) → Q (.ref p) H') : rSlG K (.ref a) lo hi H Q :=
  w_slC (Sq.lst h) e fun p hp => q p _ hp (Same.new hp) upd_same
theorem odd_bad {L : Int} (h0 : 0 ≤ L) {r : Int} (r0 : 0 ≤ r) (r1 : r < 6) : ¬ (0 ≤ nth [-1, L, L + 9, 1000000000000000000000000000000, -7, L + 1] r ∧ nth [-1, L, L + 9, 1000000000000000000000000000000, -7, L + 1] r < L) ∨ L > 1000000 := by
  have hm := nth_mem (ns := [-1, L, L + 9, 1000000000000000000000000000000, -7, L + 1]) (i := r) r0 (by show r < (6 : Int); omega)
  simp only [List.mem_cons, List.not_mem_nil, or_false] at hm
  omega
/-- _law_same(i, i) within a suite -/
theorem okE_L_same (T : Txt K mg) : FnE P w K mg base 1 T.a_L_same T.d_L_same ["_law_told", "_law_due"] (fun _ _ _ vs H Q _ => ∃ i : Int, vs = [.int i, .int i] ∧ ∀ H', Same H H' → Q (.bl true) H') := by
  refine T.F_L_same.okE sc_L_same (fun a cls d vs H Q E h => ?_) (fun cdv A outer s H vs Q a oe cls d hA hz hf hr h => ?_)
  · obtain ⟨_, rfl, _⟩ := h
    rfl
  · obtain ⟨i, rfl, q⟩ := h
    refine ⟨_, (pss_cons (ps_if (k_tru (K := K) rfl (pe_callB (k_isiT (K := K) rfl) (by rfl) T.z_isinstance (by decide +kernel) (pa_cons (pv 1) (pa_cons (pe_tup (pa_cons (pe_bltn (v := .ty "tuple") (by rfl) T.z_tuple (by decide +kernel) rfl) (pa_cons (pe_bltn (v := .ty "list") (by rfl) T.z_list (by decide +kernel) rfl) pa_nil))) pa_nil))) (by intro _; rfl)) pss_never pss_nil)
      (pss_cons (ps_if (pt_cmpR op_isNN (pv 1) pe_non (nomark _)) (pss_one (ps_ret (pe_cmpR op_isNN (pv 0) pe_non (nomark _)))) pss_nil)
      (pss_cons (ps_if (k_tru (K := K) rfl (pe_callB (k_isi (K := K) rfl) (by rfl) T.z_isinstance (by decide +kernel) (pa_cons (pv 1) (pa_cons (pe_bltn (v := .ty "bool") (by rfl) T.z_bool (by decide +kernel) rfl) pa_nil))) (by intro _; rfl)) (pss_one (ps_ret (pe_and (pe_callB (k_isi (K := K) rfl) (by rfl) T.z_isinstance (by decide +kernel) (pa_cons (pv 0) (pa_cons (pe_bltn (v := .ty "bool") (by rfl) T.z_bool (by decide +kernel) rfl) pa_nil))) (pe_one (pe_cmpR (k_eqG (K := K) rfl hr.units) (pv 0) (pv 1) (nomark _)))))) pss_nil)
      (pss_cons (ps_if (k_tru (K := K) rfl (pe_callB (k_isi (K := K) rfl) (by rfl) T.z_isinstance (by decide +kernel) (pa_cons (pv 1) (pa_cons (pe_bltn (v := .ty "str") (by rfl) T.z_str (by decide +kernel) rfl) pa_nil))) (by intro _; rfl)) (pss_one (ps_ret (pe_and (pe_callB (k_isi (K := K) rfl) (by rfl) T.z_isinstance (by decide +kernel) (pa_cons (pv 0) (pa_cons (pe_bltn (v := .ty "str") (by rfl) T.z_str (by decide +kernel) rfl) pa_nil))) (pe_one (pe_cmpR (k_eqG (K := K) rfl hr.units) (pv 0) (pv 1) (nomark _)))))) pss_nil)
      (pss_one (ps_ret (pe_and (pe_callB (k_isi (K := K) rfl) (by rfl) T.z_isinstance (by decide +kernel) (pa_cons (pv 0) (pa_cons (pe_bltn (v := .ty "int") (by rfl) T.z_int (by decide +kernel) rfl) pa_nil))) (pe_and (pe_not (pe_callB (k_isi (K := K) rfl) (by rfl) T.z_isinstance (by decide +kernel) (pa_cons (pv 0) (pa_cons (pe_bltn (v := .ty "bool") (by rfl) T.z_bool (by decide +kernel) rfl) pa_nil)))) (pe_one (pe_cmpR (k_eqG (K := K) rfl hr.units) (pv 0) (pv 1) (nomark _))))))))))), ?_⟩
    refine go_start (σ' := [some (.int i), some (.int i), none]) rfl ?_
    try dsimp only [cxOf, Cx.nox, Cx.wish]
    walk_at "GO"
    rename_i p H1 hp s1 e1
    refine w_isi2 (b := false) rfl e1 (tn := "int") (b1 := false) (b2 := false) (.base (.int _)) (by decide +kernel) (by decide +kernel) ?_
    walk_at "GO"
    refine w_isi (tn := "int") (b := false) (.base (.int _)) (by decide +kernel) ?_
    walk_at "GO"
    refine w_isi (tn := "int") (b := false) (.base (.int _)) (by decide +kernel) ?_
    walk_at "GO"
    refine w_isi (tn := "int") (b := true) (.base (.int _)) (by decide +kernel) ?_
    walk_at "GO"
    refine w_isi (tn := "int") (b := false) (.base (.int _)) (by decide +kernel) ?_
    walk_at "GO"
    rw [decide_eq_true rfl]
    exact q H1 s1
def sp_L_refused (K : PySem.W.Frag) (CN : Addr) : Sp := fun vs H Q _ => ∃ (p q J : Addr) (v e : V) (nd : NetD) (w : Nat) (jvs : List V) (js : List JobD), vs = [.ref p, .ref q, v, .ref J] ∧ IsPool H p ∧ RNetE K e (hide p H) v nd ∧ IsNet K CN (hide p H) q nd e ∧ NetOk nd w ∧ H J = some (.lst jvs) ∧ J ≠ p ∧ RA (RJob K (hide p H)) jvs js ∧ 1 ≤ js.length ∧ js.length ≤ 8 ∧
  (∀ d ∈ js, (∀ r ∈ d.1, RowOk nd w r) ∧ d.1.length ≤ 100 ∧ d.2.length ≤ 100 ∧ goodL nd.emb.length d.2) ∧ ∀ H', Q (.bl true) H'
theorem ok_L_refused (T : Txt K mg) : FnG P w K mg base CX0 8 T.a_L_refused T.d_L_refused ["_law_pool_here", "_law_helper", "_law_net_here", "_law_jobs"] (sp_L_refused K T.c_Net) := by
  refine T.F_L_refused.okG sc_L_refused (fun vs H Q E h => ?_) (fun cdv A outer s H vs Q E hA hr h => ?_)
  · obtain ⟨_, _, _, _, _, _, _, _, _, rfl, _⟩ := h
    rfl
  · obtain ⟨p, q, J, v, e, nd, wd, jvs, js, rfl, hP, rN, hN, ok, hJ, hJp, hjr, hj1, hj8, hjo, k⟩ := h
    obtain ⟨an, v1, v2, v3, v4, rfl, hn1, ⟨ae, evs, rfl, he1, hel, _⟩, _, _, _⟩ := id rN
    have hjl := hjr.1
    have e12 := ok.e12
    have hn0 := (hide_same p H).sq hn1
    have he0 := (hide_same p H).sq he1
    refine ⟨_, (pss_cons (ps_set (i := 4) sc_L_refused.nd rfl (Or.inl rfl) (pe_callB (k_lenS (K := K) rfl) (by rfl) T.z_len (by decide +kernel) (pa_cons (pe_ix (k_ix (K := K) rfl) (pv 2) pe_int (fun _ _ => rfl)) pa_nil)))
      (pss_cons (ps_set (i := 5) sc_L_refused.nd rfl (Or.inl rfl) (pe_ix (k_ix (K := K) rfl) (pe_lst (pa_cons (pe_un un_neg pe_int) (pa_cons (pv 4) (pa_cons (pe_op (k_addG (K := K) rfl) (pv 4) pe_int) (pa_cons (pe_op op_pow pe_int pe_int) (pa_cons (pe_un un_neg pe_int) (pa_cons (pe_op (k_addG (K := K) rfl) (pv 4) pe_int) pa_nil))))))) (pe_call (ok_L_draw T) (hr.mono (by decide)) (by rfl) T.g_L_draw T.F_L_draw.kp T.b_L_draw .nil pass0 (pa_cons (pv 0) (pa_cons pe_int pa_nil))) (fun _ _ => rfl)))
      (pss_cons (ps_set (i := 6) sc_L_refused.nd rfl (Or.inl rfl) (pe_call (ok_L_draw T) (hr.mono (by decide)) (by rfl) T.g_L_draw T.F_L_draw.kp T.b_L_draw .nil pass0 (pa_cons (pv 0) (pa_cons (pe_callB (k_lenS (K := K) rfl) (by rfl) T.z_len (by decide +kernel) (pa_cons (pv 3) pa_nil)) pa_nil))))
      (pss_cons (ps_set (i := 7) sc_L_refused.nd rfl (Or.inl rfl) (pe_callTy (k_listS (K := K) rfl) (by rfl) T.z_list (by decide +kernel) (pa_cons (pe_ix (k_ix (K := K) rfl) (pe_ix (k_ix (K := K) rfl) (pv 3) (pv 6) (fun _ _ => rfl)) pe_int (fun _ _ => rfl)) pa_nil)))
      (pss_cons (ps_set (i := 8) sc_L_refused.nd rfl (Or.inl rfl) (pe_call (ok_L_draw T) (hr.mono (by decide)) (by rfl) T.g_L_draw T.F_L_draw.kp T.b_L_draw .nil pass0 (pa_cons (pv 0) (pa_cons (pe_op (k_addG (K := K) rfl) (pe_callB (k_lenS (K := K) rfl) (by rfl) T.z_len (by decide +kernel) (pa_cons (pv 7) pa_nil)) pe_int) pa_nil))))
      (pss_cons (ps_set (i := 9) sc_L_refused.nd rfl (Or.inl rfl) (pe_op (k_addG (K := K) rfl) (pe_op (k_addG (K := K) rfl) (pe_op (k_addG (K := K) rfl) (pe_slice (k_slG (K := K) rfl) (pv 7) po_none (po_some (pv 8))) (pe_lst (pa_cons (pv 5) pa_nil))) (pe_slice (k_slG (K := K) rfl) (pv 7) (po_some (pv 8)) po_none)) (pe_ix (k_ix (K := K) rfl) (pe_lst (pa_cons (pe_lst pa_nil) (pa_cons (pe_lst (pa_cons (pe_un un_neg pe_int) pa_nil)) pa_nil))) (pe_call (ok_L_draw T) (hr.mono (by decide)) (by rfl) T.g_L_draw T.F_L_draw.kp T.b_L_draw .nil pass0 (pa_cons (pv 0) (pa_cons pe_int pa_nil))) (fun _ _ => rfl))))
      (pss_cons (ps_set (i := 10) sc_L_refused.nd rfl (Or.inl rfl) (pe_op (k_addG (K := K) rfl) (pe_op (k_addG (K := K) rfl) (pe_op (k_addG (K := K) rfl) (pe_slice (k_slG (K := K) rfl) (pv 3) po_none (po_some (pv 6))) (pe_lst (pa_cons (pe_tup (pa_cons (pe_ix (k_ix (K := K) rfl) (pe_ix (k_ix (K := K) rfl) (pv 3) (pv 6) (fun _ _ => rfl)) pe_int (fun _ _ => rfl)) (pa_cons (pv 9) pa_nil))) pa_nil))) (pe_ix (k_ix (K := K) rfl) (pe_lst (pa_cons (pe_lst pa_nil) (pa_cons (pe_lst (pa_cons (pe_tup (pa_cons (pe_ix (k_ix (K := K) rfl) (pe_ix (k_ix (K := K) rfl) (pv 3) (pv 6) (fun _ _ => rfl)) pe_int (fun _ _ => rfl)) (pa_cons (pe_lst (pa_cons (pv 4) pa_nil)) pa_nil))) pa_nil)) pa_nil))) (pe_callTy cr_int1 (by rfl) T.z_int (by decide +kernel) (pa_cons (pe_cmpR op_lt (pe_callB (k_lenS (K := K) rfl) (by rfl) T.z_len (by decide +kernel) (pa_cons (pv 3) pa_nil)) pe_int (nomark _)) pa_nil)) (fun _ _ => rfl))) (pe_slice (k_slG (K := K) rfl) (pv 3) (po_some (pe_op (k_addG (K := K) rfl) (pv 6) pe_int)) po_none)))
      (pss_cons (L2N.ps_try_as (i := 11) rfl rfl sc_L_refused.nd rfl rfl ⟨rfl, by decide, .inl T.gc_InvalidLetter⟩ takesN0 (fun W pn xe tk _ => (pss_one (ps_expr (pe_callS (okN_rows_in_batch T) (hr.mono (by decide)) (by rfl) T.g_rows_in_batch T.F_rows_in_batch.kp T.b_rows_in_batch (fun σ => L2N.passAt tk σ) (pa_cons (pv 1) (pa_cons (pv 10) pa_nil))))))
      (fun a oe cls d pn hz hf => (pss_one (ps_ret (pe_callE (okE_L_same T) hA (hr.mono (by decide)) hz hf (by rfl) T.g_L_same T.F_L_same.kp T.b_L_same (pa_cons (pe_xfP T.xf_InvalidLetter T.nf_InvalidLetter List.mem_cons_self hz.zc hf (pv 11) rfl) (pa_cons (pv 5) pa_nil)))))))
      (pss_one (ps_ret pe_bl)))))))))), ?_⟩
    refine go_start (σ' := [some (.ref p), some (.ref q), some (.ref an), some (.ref J), none, none, none, none, none, none, none, none]) rfl ?_
    try dsimp only [cxOf, Cx.nox, Cx.wish]
    walk_at "GO"
    -- the odd letter
    rename_i q1 H1 hq1 s1 e1
    refine ⟨p, 6, rfl, hP.same s1, by omega, fun r H2 r0 r1 f2 hP2 => ?_⟩
    have e1' : H2 q1 = some (.lst (([-1, (evs.length : Int), (evs.length : Int) + 9, 1000000000000000000000000000000, -7, (evs.length : Int) + 1] : List Int).map V.int)) := f2 _ _ (hP.ne hq1) e1
    have hb := (odd_bad (L := (evs.length : Int)) (by omega) r0 r1).resolve_right (by omega)
    have f02 := (Fr.same (t := p) s1).trans f2
    have hJ2 := f02 _ _ hJp hJ
    clear e1 f2 s1
    walk_at "GO"
    generalize nth [-1, (evs.length : Int), (evs.length : Int) + 9, 1000000000000000000000000000000, -7, (evs.length : Int) + 1] r = x at hb ⊢
    clear e1'
    -- the job
    refine ⟨p, (jvs.length : Int), rfl, hP2, by omega, fun ra H3 a0 a1 f3 hP3 => ?_⟩
    have f03 := f02.trans f3
    have hJ3 := f03 _ _ hJp hJ
    obtain ⟨ia, rfl, hia⟩ : ∃ ia : Nat, ra = (ia : Int) ∧ ia < jvs.length := ⟨ra.toNat, by omega, by omega⟩
    have hyi : jvs[ia]? = some (jvs[ia]'hia) := List.getElem?_eq_getElem hia
    generalize jvs[ia]'hia = y at hyi
    have hdi : js[ia]? = some (js[ia]'(by omega)) := List.getElem?_eq_getElem (by omega)
    generalize js[ia]'(by omega) = d at hdi
    have hdm := List.mem_of_getElem? hdi
    obtain ⟨o1, o2, o3, o4⟩ := hjo d hdm
    have rj0 := hjr.2 ia y d hyi hdi
    obtain ⟨t, ar, al, b1, b2, rfl, ht, hR, hL⟩ := id (rj0.mono f03.hide)
    walk_at "GO"
    refine w_ix (Sq.lst hJ3) (atI_nat hyi) ?_
    walk_at "GO"
    rename_i lt H4 hlt s4 e4
    have hltp : lt ≠ p := hP3.ne hlt
    refine ⟨p, _, rfl, hP3.same s4, by omega, fun rp H5 p0 p1 f5 hP5 => ?_⟩
    obtain ⟨ip, rfl, hip⟩ : ∃ ip : Nat, rp = (ip : Int) ∧ ip ≤ d.2.length := ⟨rp.toNat, by omega, by omega⟩
    have e5 := f5 _ _ hltp e4
    have f05 := (f03.trans (Fr.same s4)).trans f5
    clear f5 s4 e4 ht hL hR
    walk_at "GO"
    -- the wrong letters
    refine w_slL (ys := (d.2.take ip).map V.int) e5 (by rw [cutV_intTo (by omega) (by rw [List.length_map]; omega), Int.toNat_natCast, List.map_take]) fun l1 H6 hl1 s6 e6 => ?_
    walk_at "GO"
    rename_i l2 H7 hl2 s7 e7
    refine w_catSS (s7 _ _ e6) e7 (by rw [sizeLine_eq, List.length_map, List.length_take]; simp only [List.length_cons, List.length_nil]; omega) fun l3 H8 hl3 s8 e8 => ?_
    have e58 := s8 _ _ (s7 _ _ (s6 _ _ e5))
    walk_at "GO"
    refine w_slL (ys := (d.2.drop ip).map V.int) e58 (by rw [cutV_from (by rw [List.length_map]; omega), List.map_drop]) fun l4 H9 hl4 s9 e9 => ?_
    walk_at "GO"
    refine w_catSS (s9 _ _ e8) e9 (by rw [sizeLine_eq]; simp only [List.length_append, List.length_map, List.length_take, List.length_drop, List.length_cons, List.length_nil]; omega) fun l5 H10 hl5 s10 e10 => ?_
    have s510 := ((s6.trans s7).trans (s8.trans s9)).trans s10
    have hP10 := hP5.same s510
    have hl5p : l5 ≠ p := (hP5.same ((s6.trans s7).trans (s8.trans s9))).ne hl5
    have f010 := f05.trans (Fr.same s510)
    clear e9 e8 e7 e6 e58 e5 s6 s7 s8 s9 s10 s510 hl1 hl2 hl3 hl4 hl5
    walk_at "GO"
    rename_i a1 H11 ha1 s11 e11 a2 H12 ha2 s12 e12 a3 H13 ha3 s13 e13
    have hP12 := hP10.same (s11.trans s12)
    refine ⟨p, 2, rfl, hP12.same s13, by omega, fun r2 H14 c0 c1 f14 hP14 => ?_⟩
    have e14 := f14 _ _ (hP12.ne ha3) e13
    have e114 : H14 a1 = some (.lst (([] : List Int).map V.int)) := f14 _ _ (hP10.ne ha1) ((s12.trans s13) _ _ e11)
    have e124 : H14 a2 = some (.lst (([-4] : List Int).map V.int)) := f14 _ _ ((hP10.same s11).ne ha2) (s13 _ _ e12)
    have e1014 := f14 _ _ hl5p (((s11.trans s12).trans s13) _ _ e10)
    have f014 := (f010.trans (Fr.same ((s11.trans s12).trans s13))).trans f14
    obtain ⟨c, tl, hc, htl, htl1⟩ : ∃ (c : Addr) (tl : List Int), atI [V.ref a1, .ref a2] r2 = some (.ref c) ∧ H14 c = some (.lst (tl.map V.int)) ∧ tl.length ≤ 1 := by
      have h : r2 = 0 ∨ r2 = 1 := by omega
      rcases h with rfl | rfl
      · exact ⟨a1, [], rfl, e114, by decide⟩
      · exact ⟨a2, [-4], rfl, e124, by decide⟩
    clear e114 e124 e11 e12 e13 e10 f14 f010 hP12 hP10 s11 s12 s13 ha1 ha2 ha3
    walk_at "GO"
    refine w_ix (Sq.lst e14) hc ?_
    clear e14 hc
    refine w_catSS e1014 htl (by rw [sizeLine_eq]; simp only [List.length_append, List.length_map, List.length_take, List.length_drop, List.length_cons, List.length_nil]; omega) fun lw H15 hlw s15 e15 => ?_
    obtain ⟨wI, ewI⟩ : ∃ wI : List Int, wI = d.2.take ip ++ [x] ++ d.2.drop ip ++ tl := ⟨_, rfl⟩
    have e15' : H15 lw = some (.lst (wI.map V.int)) := by
      rw [e15, ewI]
      simp only [List.map_append, List.map_cons, List.map_nil]
    have hP15 := hP14.same s15
    have hlwp : lw ≠ p := hP14.ne hlw
    have f015 := f014.trans (Fr.same s15)
    have hJ15 := f015 _ _ hJp hJ
    clear e15 htl e1014 f014 s15 hlw
    walk_at "GO"
    -- the rows
    refine w_slL (ys := jvs.take ia) hJ15 (by rw [cutV_intTo (by omega) (by omega), Int.toNat_natCast]) fun m1 H16 hm1 s16 e16 => ?_
    have hJ16 := s16 _ _ hJ15
    walk_at "GO"
    refine w_ix (Sq.lst hJ16) (atI_nat hyi) ?_
    obtain ⟨t', ar', al', b1', b2', et, ht16, hR16, hL16⟩ := id (rj0.mono (f015.trans (Fr.same s16)).hide)
    cases et
    walk_at "GO"
    rename_i t1 H17 ht1 s17 e17 m2 H18 hm2 s18 e18
    refine w_catSS ((s17.trans s18) _ _ e16) e18 (by rw [sizeLine_eq, List.length_take]; simp only [List.length_cons, List.length_nil]; omega) fun m3 H19 hm3 s19 e19 => ?_
    have s1619 := (s17.trans s18).trans s19
    have hJ19 := s1619 _ _ hJ16
    have ht19 := s1619.sq ht16
    walk_at "GO"
    rename_i n1 H20 hn1 s20 e20
    have hJ20 := s20 _ _ hJ19
    have ht20 := s20.sq ht19
    refine w_ix (Sq.lst hJ20) (atI_nat hyi) ?_
    clear hJ19 ht19
    walk_at "GO"
    rename_i n2 H21 hn2 s21 e21 t2 H22 ht2 s22 e22 n3 H23 hn3 s23 e23 n4 H24 hn4 s24 e24
    have s2124 := (s21.trans s22).trans (s23.trans s24)
    have s1624 := (s1619.trans s20).trans s2124
    obtain ⟨c, cv, cj, hc, hcv, hcr, hcl, hco⟩ : ∃ (c : Addr) (cv : List V) (cj : List JobD), atI [V.ref n1, .ref n3] (if decide ((jvs.length : Int) < 8) = true then 1 else 0) = some (.ref c) ∧ H24 c = some (.lst cv) ∧ RA (RJob K H24) cv cj ∧ cv.length ≤ 1 ∧ ∀ z ∈ cj, (∀ r ∈ z.1, RowOk nd wd r) ∧ z.1.length ≤ 1000 ∧ z.2.length ≤ 1000 := by
      by_cases h8 : (jvs.length : Int) < 8
      · rw [if_pos (decide_eq_true h8)]
        refine ⟨n3, [.ref t2], [(d.1, [(evs.length : Int)])], rfl, s24 _ _ e23, RA.one ⟨t2, ar', n2, b1', true, rfl, Sq.tup ((s23.trans s24) _ _ e22), RSeq.mono RRow.mono _ _ _ _ s1624 hR16, Sq.lst (((s22.trans s23).trans s24) _ _ e21)⟩, Nat.le_refl _, fun z hz => ?_⟩
        rw [List.mem_singleton.mp hz]
        exact ⟨o1, by show d.1.length ≤ 1000; omega, by show 1 ≤ 1000; omega⟩
      · rw [if_neg (by rw [decide_eq_false h8]; decide)]
        exact ⟨n1, [], [], rfl, s2124 _ _ e20, RA.nil, Nat.zero_le _, List.forall_mem_nil _⟩
    refine w_ix (Sq.lst e24) hc ?_
    refine w_catSS ((s20.trans s2124) _ _ e19) hcv (by rw [sizeLine_eq]; simp only [List.length_append, List.length_take, List.length_cons, List.length_nil]; omega) fun m4 H25 hm4 s25 e25 => ?_
    have hJ25 := (s2124.trans s25) _ _ hJ20
    walk_at "GO"
    refine w_slL (ys := jvs.drop (ia + 1)) hJ25 (by rw [show ((ia : Nat) : Int) + 1 = ((ia + 1 : Nat) : Int) from rfl]; exact cutV_from (by omega)) fun m5 H26 hm5 s26 e26 => ?_
    refine w_catSS (s26 _ _ e25) e26 (by rw [sizeLine_eq]; simp only [List.length_append, List.length_take, List.length_drop, List.length_cons, List.length_nil]; omega) fun Jr H27 hJr s27 e27 => ?_
    have s2427 := s25.trans (s26.trans s27)
    have s1627 := s1624.trans s2427
    have f027 := (f015.trans (Fr.same s16)).trans (Fr.same s1627)
    have hjr27 := hjr.imp fun y d h => RJob.mono f027.hide h
    have rj1 : RJob K H27 (.ref t1) (d.1, wI) := ⟨t1, ar', lw, b1', true, rfl, Sq.tup ((((s18.trans s19).trans s20).trans (s2124.trans s2427)) _ _ e17), RSeq.mono RRow.mono _ _ _ _ s1627 hR16, Sq.lst ((s16.trans s1627) _ _ e15')⟩
    have hall := (((hjr27.take ia).app (RA.one rj1)).app (hcr.imp fun y d h => RJob.mono s2427 h)).app (hjr27.drop (ia + 1))
    have hN27 := hN.mono f027.hide
    have hlt : (js.take ia).length = ia := by rw [List.length_take]; omega
    have hlt2 : (d.2.take ip).length = ip := by rw [List.length_take]; omega
    have hwIl : wI.length ≤ 1000 := by rw [ewI]; simp only [List.length_append, List.length_take, List.length_drop, List.length_cons, List.length_nil]; omega
    have hcjl := hcr.1
    have hfb : FirstBadI nd.emb.length (js.take ia ++ [(d.1, wI)] ++ cj ++ js.drop (ia + 1)) x := by
      refine ⟨ia, ip, (d.1, wI), ?_, ?_, by rw [← hel]; exact hb, fun i' d' hi' h => ?_, fun j' y hj' h => ?_⟩
      · rw [List.getElem?_append_left (by simp only [List.length_append, hlt, List.length_cons, List.length_nil]; omega), List.getElem?_append_left (by simp only [List.length_append, hlt, List.length_cons, List.length_nil]; omega), List.getElem?_append_right (by omega), hlt, Nat.sub_self]
        rfl
      · show wI[ip]? = some x
        rw [ewI, List.getElem?_append_left (by simp only [List.length_append, hlt2, List.length_cons, List.length_nil]; omega), List.getElem?_append_left (by simp only [List.length_append, hlt2, List.length_cons, List.length_nil]; omega), List.getElem?_append_right (by omega), hlt2, Nat.sub_self]
        rfl
      · rw [List.getElem?_append_left (by simp only [List.length_append, hlt, List.length_cons, List.length_nil]; omega), List.getElem?_append_left (by simp only [List.length_append, hlt, List.length_cons, List.length_nil]; omega), List.getElem?_append_left (by omega)] at h
        exact (hjo d' (List.mem_of_mem_take (List.mem_of_getElem? h))).2.2.2
      · have h : wI[j']? = some y := h
        rw [ewI, List.getElem?_append_left (by simp only [List.length_append, hlt2, List.length_cons, List.length_nil]; omega), List.getElem?_append_left (by simp only [List.length_append, hlt2, List.length_cons, List.length_nil]; omega), List.getElem?_append_left (by omega)] at h
        exact o4 y (List.mem_of_mem_take (List.mem_of_getElem? h))
    have hbnd : ∀ z ∈ js.take ia ++ [(d.1, wI)] ++ cj ++ js.drop (ia + 1), (∀ r ∈ z.1, RowOk nd wd r) ∧ z.1.length ≤ 1000 ∧ z.2.length ≤ 1000 := fun z hz => by
      rcases List.mem_append.mp hz with hz | hz
      · rcases List.mem_append.mp hz with hz | hz
        · rcases List.mem_append.mp hz with hz | hz
          · obtain ⟨g1, g2, g3, _⟩ := hjo z (List.mem_of_mem_take hz)
            exact ⟨g1, by omega, by omega⟩
          · rw [List.mem_singleton.mp hz]
            exact ⟨o1, by show d.1.length ≤ 1000; omega, hwIl⟩
        · exact hco z hz
      · obtain ⟨g1, g2, g3, _⟩ := hjo z (List.mem_of_mem_drop hz)
        exact ⟨g1, by omega, by omega⟩
    have hjsl : (js.take ia ++ [(d.1, wI)] ++ cj ++ js.drop (ia + 1)).length ≤ 100 := by
      simp only [List.length_append, List.length_take, List.length_drop, List.length_cons, List.length_nil]
      omega
    generalize js.take ia ++ [(d.1, wI)] ++ cj ++ js.drop (ia + 1) = js2 at hall hfb hbnd hjsl
    generalize jvs.take ia ++ [V.ref t1] ++ cv ++ jvs.drop (ia + 1) = vs2 at e27 hall
    clear hcr hcv hc e26 e25 e24 e23 e22 e21 e20 e19 e18 e17 e16 hR16 hL16 ht16 ht20 hJ20 hJ16 hJ25 e15' hjr27
    walk_at "GO"
    refine ⟨q, Jr, nd, e, wd, true, vs2, js2, rfl, hN27, ok, Sq.lst e27, hall.1, hall.2, hjsl, hbnd, fun hg => (hfb.not hg).elim, fun y hy => ?_⟩
    rw [hy.uniq hfb]
    intro dd H28 hdd s28 ed28
    refine ⟨true, exm_sub T.er_InvalidLetter T.sub_InvalidLetter_InvalidLetter, fun _ ea hea => ?_, fun h => nomatch h⟩
    walk_at "GO"
    refine w_xfV rfl ed28 rfl ?_
    walk_at "GO"
    exact ⟨x, rfl, fun H' _ => k H'⟩

/-! ### the law -/
def sp_law (K : PySem.W.Frag) : Sp := fun vs H Q _ => ∃ (a : Addr) (ns : List Int), vs = [.ref a] ∧ SqL K H a (ns.map V.int) ∧ ns.length ≤ 63 ∧ ∀ H', Q (.bl true) H'
abbrev JN := List Nat × List Nat
def aheadD (nd : NetD) (d : JN) : List RowD := rowsD nd d.1 []
def toJob (nd : NetD) (d : JN) : JobD := (aheadD nd d, natI d.2)
def dueD (nd : NetD) (d : JN) : List RowD := jobRows nd (aheadD nd d) d.2
def JNok (nd : NetD) (d : JN) : Prop := d.1.length ≤ 8 ∧ d.2.length ≤ 6 ∧ (∀ l ∈ d.1, l < nd.emb.length) ∧ ∀ l ∈ d.2, l < nd.emb.length
theorem lettersN_job (nd : NetD) (d : JN) : lettersN (toJob nd d) = d.2 := by
  show (natI d.2).map Int.toNat = d.2
  unfold natI
  rw [List.map_map]
  conv => rhs; rw [← List.map_id d.2]
  exact List.map_congr_left fun x _ => rfl
theorem aheadD_len (nd : NetD) (d : JN) : (aheadD nd d).length = d.1.length := by unfold aheadD; rw [rowsD_len]; simp only [List.length_nil]; omega
theorem natI_of {ms : List Int} {L : Int} (h : ∀ x ∈ ms, 0 ≤ x ∧ x < L) : natI (ms.map Int.toNat) = ms := by
  unfold natI
  rw [List.map_map]
  conv => rhs; rw [← List.map_id ms]
  exact List.map_congr_left fun x hx => Int.toNat_of_nonneg (h x hx).1
theorem FrS.at {S : List Addr} {H H' : Hp} {b : Addr} {o : HO} (f : FrS S H H') (n : b ∉ S) (h : H b = some o) : H' b = some o := f b o ((hs_ne n).trans h)
theorem FrS.mut {S : List Addr} {H H' : Hp} {D : Addr} {o : HO} (f : FrS S H H') (h : H D = none) : FrS S H (L2.upd H' D o) := fun b u e => by
  rw [upd_ne (ne_of_none ((hs_same S H) b u e) h)]
  exact f b u e
theorem tup_not {S : List Addr} {H : Hp} {t : Addr} {xs : List V} (hn : ∀ c ∈ S, NTup (H c)) (h : H t = some (.tup xs)) : t ∉ S := fun m => by
  have := hn t m
  rw [h] at this
  exact this
theorem w_catTq {K : PySem.W.Frag} {H : Hp} {Q : VK} {a b : Addr} {xs ys : List V} (h1 : H a = some (.tup xs)) (h2 : H b = some (.tup ys)) (hz : xs.length + ys.length ≤ 1000000) (q : ∀ p H', Same H H' → H' p = some (.tup (xs ++ ys)) → Q (.ref p) H') : rCatA K (.ref a) (.ref b) H Q :=
  ⟨a, b, xs, ys, rfl, rfl, Sq.tup h1, Sq.tup h2, by rw [sizeLine_eq]; omega, fun e => q _ _ (Same.refl _) (by rw [e]; exact h2), fun _ e => q _ _ (Same.refl _) (by rw [e, List.append_nil]; exact h1), fun _ _ p hp => q _ _ (Same.new hp) upd_same⟩
theorem hs_hide {S : List Addr} {p : Addr} {H : Hp} (h : p ∈ S) : Same (hs S H) (hide p H) := fun b o e => by
  have hb : b ≠ p := fun z => by rw [z, hs_at h] at e; cases e
  rw [hide_ne hb]
  exact hs_same S H b o e
theorem KD.le {K : PySem.W.Frag} {nd : NetD} {H : Hp} {kd : Addr} {N M : Nat} (h : KD K nd H kd N) (l : N ≤ M) : KD K nd H kd M := by
  obtain ⟨kvs, h1, h2, h3⟩ := h
  exact ⟨kvs, h1, by omega, h3⟩
theorem RA.push {δ : Type} {P : V → δ → Prop} {vs : List V} {ds : List δ} {v : V} {d : δ} (h : RA P vs ds) (p : P v d) : RA P (vs ++ [v]) (ds ++ [d]) := h.app (RA.one p)
theorem jobs_ok {nd : NetD} {w : Nat} (ok : NetOk nd w) {d : JN} (h : JNok nd d) : (∀ r ∈ aheadD nd d, RowOk nd w r) ∧ ∀ r ∈ dueD nd d, RowOk nd w r := by
  have e : rowsD nd (d.1 ++ d.2) [] = aheadD nd d ++ dueD nd d := by rw [rowsD_app]; exact rowsD_job nd _ _
  have a := rowsD_ok ok (d.1 ++ d.2) [] (fun l hl => by
    rcases List.mem_append.mp hl with z | z
    · exact h.2.2.1 l z
    · exact h.2.2.2 l z) (List.forall_mem_nil _)
  rw [e] at a
  exact ⟨fun r hr => a r (List.mem_append.mpr (.inl hr)), fun r hr => a r (List.mem_append.mpr (.inr hr))⟩
theorem toJob_good {nd : NetD} {d : JN} (h : JNok nd d) : goodL nd.emb.length (toJob nd d).2 := fun x hx => by
  obtain ⟨l, hl, rfl⟩ := List.mem_map.mp hx
  have := h.2.2.2 l hl
  omega
theorem jobs_due (nd : NetD) (js : List JN) : ((js.map (toJob nd)).map fun d => jobRows nd d.1 (lettersN d)) = js.map (dueD nd) := by
  rw [List.map_map]
  refine List.map_congr_left fun d _ => ?_
  show jobRows nd (aheadD nd d) (lettersN (toJob nd d)) = _
  rw [lettersN_job]
  rfl
theorem RA.seqT {K : PySem.W.Frag} {α δ : Type} {R : Rep α} {H : Hp} {f : δ → α} {vs : List V} {ds : List δ} {t : Addr} (h : RA (fun y d => R H y (f d)) vs ds) (e : Sq false K H t vs) : RSeq false K R H (.ref t) (ds.map f) :=
  ⟨t, vs, rfl, e, by rw [List.length_map]; exact h.1, fun i y x h1 h2 => by
    rw [List.getElem?_map] at h2
    cases e : ds[i]? with
    | none => rw [e] at h2; cases h2
    | some d => rw [e] at h2; cases h2; exact h.2 i y d h1 e⟩
theorem SmC.rows {K : PySem.W.Frag} {H : Hp} {nd : NetD} {w : Nat} (ok : NetOk nd w) {x y : V} {rs : List RowD} (hz : rs.length ≤ 100000) (hr : ∀ r ∈ rs, RowOk nd w r) (h1 : RSeq false K (RRow K) H x rs) (h2 : RSeq false K (RRow K) H y rs) : SmC K H 5 x y :=
  SmC.seq hz (fun _ _ d hd a b => SmC.row ok (hr d hd) a b) h1 h2
theorem SmC.up {K : PySem.W.Frag} {H : Hp} : ∀ {n : Nat} {x y : V}, SmC K H n x y → SmC K H (n + 1) x y
  | 0, _, _, h => .inl h
  | n + 1, _, _, .inl h => .inl h
  | n + 1, _, _, .inr ⟨a, a', k, xs, ys, h1, h2, h3, h4, h5, hz, h6⟩ => .inr ⟨a, a', k, xs, ys, h1, h2, h3, h4, h5, hz, fun i x' y' e1 e2 => SmC.up (h6 i x' y' e1 e2)⟩
theorem natI_app (a b : List Nat) : natI (a ++ b) = natI a ++ natI b := by unfold natI; rw [List.map_append]
theorem ok_law (T : Txt K mg) : FnG P w K mg base CX0 9 T.a_law T.d_law ["_law_script"] (sp_law K) := by
  refine T.F_law.okG sc_law (fun vs H Q E h => ?_) (fun cdv A outer s H vs Q E hA hr h => ?_)
  · obtain ⟨_, _, rfl, _⟩ := h
    rfl
  · obtain ⟨a, sc, rfl, hS0, hlen, k⟩ := h
    have hS : Sq true K H a (sc.map V.int) := hS0
    refine ⟨_, (pss_cons (ps_set (i := 1) sc_law.nd rfl (Or.inr rfl) (pe_call (ok_L_pool T) (hr.mono (by decide)) (by rfl) T.g_L_pool T.F_L_pool.kp T.b_L_pool .nil pass0 (pa_cons (pv 0) (pa_cons pe_int pa_nil))))
      (pss_cons (ps_set (i := 2) sc_law.nd rfl (Or.inl rfl) (pe_call (ok_L_net T) (hr.mono (by decide)) (by rfl) T.g_L_net T.F_L_net.kp T.b_L_net .nil pass0 (pa_cons (pv 1) pa_nil)))
      (pss_cons (ps_set (i := 3) sc_law.nd rfl (Or.inl rfl) (pe_call (ok_L_as_net T) (hr.mono (by decide)) (by rfl) T.g_L_as_net T.F_L_as_net.kp T.b_L_as_net .nil pass0 (pa_cons (pv 2) pa_nil)))
      (pss_cons (ps_set (i := 4) sc_law.nd rfl (Or.inr rfl) (pe_callB (k_lenS (K := K) rfl) (by rfl) T.z_len (by decide +kernel) (pa_cons (pe_ix (k_ix (K := K) rfl) (pv 2) pe_int (fun _ _ => rfl)) pa_nil)))
      (pss_cons (ps_set (i := 5) sc_law.nd rfl (Or.inl rfl) pe_dnewT)
      (pss_cons (ps_set (i := 6) sc_law.nd rfl (Or.inl rfl) (pe_lst pa_nil))
      (pss_cons (ps_set (i := 7) sc_law.nd rfl (Or.inl rfl) (pe_lst pa_nil))
      (pss_cons (ps_for PassesOwn.never rfl (pi_range1 rfl T.z_range (pa_cons (pe_op (k_addG (K := K) rfl) pe_int (pe_call (ok_L_draw T) (hr.mono (by decide)) (by rfl) T.g_L_draw T.F_L_draw.kp T.b_L_draw .nil pass0 (pa_cons (pv 1) (pa_cons pe_int pa_nil)))) pa_nil)) (pg_name (i := 8) sc_law.nd rfl (Or.inl rfl))
      (pss_cons (ps_set (i := 10) sc_law.nd rfl (Or.inl rfl) (pe_callTy (k_tupS (K := K) rfl) (by rfl) T.z_tuple (by decide +kernel) (pa_cons (pe_lc (own := [("_law_j", 9)]) (g := gName 9) (tt := tYes) rfl sc_law.nd (pi_range1 rfl T.z_range (pa_cons (pe_call (ok_L_draw T) (hr.mono (by decide)) (by rfl) T.g_L_draw T.F_L_draw.kp T.b_L_draw .nil pass0 (pa_cons (pv 1) (pa_cons pe_int pa_nil))) pa_nil)) (blkOk_by (own := [("_law_j", 9)]) (by kernel_rfl)) (fun _ _ _ _ _ => (pg_name (i := 9) sc_law.nd rfl (by first | exact Or.inl rfl | exact Or.inr rfl))) (fun _ _ _ _ _ => pts_nil) (fun _ _ _ _ _ => (pe_call (ok_L_draw T) (hr.mono (by decide)) (by rfl) T.g_L_draw T.F_L_draw.kp T.b_L_draw .nil pass0 (pa_cons (pv 1) (pa_cons (pv 4) pa_nil))))) pa_nil)))
      (pss_cons (ps_set (i := 11) sc_law.nd rfl (Or.inl rfl) (pe_callTy (k_tupS (K := K) rfl) (by rfl) T.z_tuple (by decide +kernel) (pa_cons (pe_lc (own := [("_law_j", 9)]) (g := gName 9) (tt := tYes) rfl sc_law.nd (pi_range1 rfl T.z_range (pa_cons (pe_call (ok_L_draw T) (hr.mono (by decide)) (by rfl) T.g_L_draw T.F_L_draw.kp T.b_L_draw .nil pass0 (pa_cons (pv 1) (pa_cons pe_int pa_nil))) pa_nil)) (blkOk_by (own := [("_law_j", 9)]) (by kernel_rfl)) (fun _ _ _ _ _ => (pg_name (i := 9) sc_law.nd rfl (by first | exact Or.inl rfl | exact Or.inr rfl))) (fun _ _ _ _ _ => pts_nil) (fun _ _ _ _ _ => (pe_call (ok_L_draw T) (hr.mono (by decide)) (by rfl) T.g_L_draw T.F_L_draw.kp T.b_L_draw .nil pass0 (pa_cons (pv 1) (pa_cons (pv 4) pa_nil))))) pa_nil)))
      (pss_cons (ps_set (i := 12) sc_law.nd rfl (Or.inl rfl) (pe_lst pa_nil))
      (pss_cons (ps_for PassesOwn.never rfl (pi_range1 rfl T.z_range (pa_cons (pe_op (k_addG (K := K) rfl) (pe_callB (k_lenS (K := K) rfl) (by rfl) T.z_len (by decide +kernel) (pa_cons (pv 10) pa_nil)) (pe_callB (k_lenS (K := K) rfl) (by rfl) T.z_len (by decide +kernel) (pa_cons (pv 11) pa_nil))) pa_nil)) (pg_name (i := 9) sc_law.nd rfl (Or.inl rfl))
      (pss_one (ps_expr (k_bm (K := K) rfl PySem.F.plainAttrs_list PySem.F.slot_list_append PySem.F.type_list_append mt_append (pv 12) (pa_cons (pe_call (ok_L_behind T) (hr.mono (by decide)) (by rfl) T.g_L_behind T.F_L_behind.kp T.b_L_behind .nil pass0 (pa_cons (pv 2) (pa_cons (pv 5) (pa_cons (pe_slice (k_slG (K := K) rfl) (pe_op op_catA (pv 10) (pv 11)) po_none (po_some (pe_op (k_addG (K := K) rfl) (pv 9) pe_int))) pa_nil)))) pa_nil)))))
      (pss_cons (ps_expr (k_bm (K := K) rfl PySem.F.plainAttrs_list PySem.F.slot_list_append PySem.F.type_list_append mt_append (pv 6) (pa_cons (pe_tup (pa_cons (pe_call (ok_L_as T) (hr.mono (by decide)) (by rfl) T.g_L_as T.F_L_as.kp T.b_L_as .nil pass0 (pa_cons (pv 1) (pa_cons (pe_slice (k_slG (K := K) rfl) (pv 12) po_none (po_some (pe_callB (k_lenS (K := K) rfl) (by rfl) T.z_len (by decide +kernel) (pa_cons (pv 10) pa_nil)))) pa_nil))) (pa_cons (pe_call (ok_L_as T) (hr.mono (by decide)) (by rfl) T.g_L_as T.F_L_as.kp T.b_L_as .nil pass0 (pa_cons (pv 1) (pa_cons (pv 11) pa_nil))) pa_nil))) pa_nil)))
      (pss_one (ps_expr (k_bm (K := K) rfl PySem.F.plainAttrs_list PySem.F.slot_list_append PySem.F.type_list_append mt_append (pv 7) (pa_cons (pe_callTy (k_tupS (K := K) rfl) (by rfl) T.z_tuple (by decide +kernel) (pa_cons (pe_slice (k_slG (K := K) rfl) (pv 12) (po_some (pe_callB (k_lenS (K := K) rfl) (by rfl) T.z_len (by decide +kernel) (pa_cons (pv 10) pa_nil))) po_none) pa_nil)) pa_nil))))))))))
      (pss_cons (ps_setLc (i := 13) (own := [("_law_job", 16)]) (g := gName 16) (tt := tYes) rfl sc_law.nd rfl rfl (sw_true rfl rfl rfl (by decide +kernel)) (k_seqS (K := K) rfl (pv 6)) (blkOk_by (own := [("_law_job", 16)]) (by kernel_rfl)) (fun _ _ _ _ _ => (pg_name (i := 16) sc_law.nd rfl (by first | exact Or.inl rfl | exact Or.inr rfl))) (fun _ _ _ _ _ => pts_nil) (fun _ _ _ _ _ => (pe_tup (pa_cons (pe_callTy (k_tupS (K := K) rfl) (by rfl) T.z_tuple (by decide +kernel) (pa_cons (pe_ix (k_ix (K := K) rfl) (pv 16) pe_int (fun _ _ => rfl)) pa_nil)) (pa_cons (pe_callTy (k_tupS (K := K) rfl) (by rfl) T.z_tuple (by decide +kernel) (pa_cons (pe_ix (k_ix (K := K) rfl) (pv 16) pe_int (fun _ _ => rfl)) pa_nil)) pa_nil)))))
      (pss_cons (ps_set (i := 14) sc_law.nd rfl (Or.inl rfl) (pe_call (ok_L_as T) (hr.mono (by decide)) (by rfl) T.g_L_as T.F_L_as.kp T.b_L_as .nil pass0 (pa_cons (pv 1) (pa_cons (pv 6) pa_nil))))
      (pss_cons (ps_if (PW.pt (pw_or (pt_not (k_tru (K := K) rfl (pe_call (ok_L_same_at T 6) (hr.mono (by decide)) (by rfl) T.g_L_same T.F_L_same.kp T.b_L_same .nil pass0 (pa_cons (pe_call (ok_rows_in_batch T) (hr.mono (by decide)) (by rfl) T.g_rows_in_batch T.F_rows_in_batch.kp T.b_rows_in_batch .nil pass0 (pa_cons (pv 3) (pa_cons (pv 14) pa_nil))) (pa_cons (pe_callTy (k_tupS (K := K) rfl) (by rfl) T.z_tuple (by decide +kernel) (pa_cons (pv 7) pa_nil)) pa_nil))) (by intro _; rfl))) (pw_or1 (pt_cmpR (k_neG (K := K) rfl hr.units) (pe_callB (k_lenS (K := K) rfl) (by rfl) T.z_len (by decide +kernel) (pa_cons (pv 14) pa_nil)) (pe_callB (k_lenS (K := K) rfl) (by rfl) T.z_len (by decide +kernel) (pa_cons (pv 6) pa_nil)) (nomark _))))) (pss_one (ps_ret pe_bl)) pss_nil)
      (pss_cons (ps_for PassesOwn.never rfl (pi_range1 rfl T.z_range (pa_cons (pe_callB (k_lenS (K := K) rfl) (by rfl) T.z_len (by decide +kernel) (pa_cons (pv 6) pa_nil)) pa_nil)) (pg_name (i := 8) sc_law.nd rfl (Or.inl rfl))
      (pss_cons (ps_if (pt_not (k_tru (K := K) rfl (pe_call (ok_L_same_at T 6) (hr.mono (by decide)) (by rfl) T.g_L_same T.F_L_same.kp T.b_L_same .nil pass0 (pa_cons (pe_tup (pa_cons (pe_callTy (k_tupS (K := K) rfl) (by rfl) T.z_tuple (by decide +kernel) (pa_cons (pe_ix (k_ix (K := K) rfl) (pe_ix (k_ix (K := K) rfl) (pv 6) (pv 8) (fun _ _ => rfl)) pe_int (fun _ _ => rfl)) pa_nil)) (pa_cons (pe_callTy (k_tupS (K := K) rfl) (by rfl) T.z_tuple (by decide +kernel) (pa_cons (pe_ix (k_ix (K := K) rfl) (pe_ix (k_ix (K := K) rfl) (pv 6) (pv 8) (fun _ _ => rfl)) pe_int (fun _ _ => rfl)) pa_nil)) pa_nil))) (pa_cons (pe_ix (k_ix (K := K) rfl) (pv 13) (pv 8) (fun _ _ => rfl)) pa_nil))) (by intro _; rfl))) (pss_one (ps_ret pe_bl)) pss_nil)
      (pss_cons (ps_set (i := 12) sc_law.nd rfl (Or.inl rfl) (pe_callTy (k_listS (K := K) rfl) (by rfl) T.z_list (by decide +kernel) (pa_cons (pe_ix (k_ix (K := K) rfl) (pe_ix (k_ix (K := K) rfl) (pv 13) (pv 8) (fun _ _ => rfl)) pe_int (fun _ _ => rfl)) pa_nil)))
      (pss_cons (ps_for PassesOwn.never rfl (k_seqS (K := K) rfl (pe_ix (k_ix (K := K) rfl) (pe_ix (k_ix (K := K) rfl) (pv 13) (pv 8) (fun _ _ => rfl)) pe_int (fun _ _ => rfl))) (pg_name (i := 15) sc_law.nd rfl (Or.inl rfl))
      (pss_one (ps_expr (k_bm (K := K) rfl PySem.F.plainAttrs_list PySem.F.slot_list_append PySem.F.type_list_append mt_append (pv 12) (pa_cons (pe_meth (pv 3) T.C_Net T.m_Net_row (ok_Net_row T) (hr.mono (by decide)) T.b_Net_row .nil pass0 (pa_cons (pv 12) (pa_cons (pv 15) pa_nil))) pa_nil)))))
      (pss_one (ps_if (pt_not (k_tru (K := K) rfl (pe_call (ok_L_same_at T 6) (hr.mono (by decide)) (by rfl) T.g_L_same T.F_L_same.kp T.b_L_same .nil pass0 (pa_cons (pe_callTy (k_tupS (K := K) rfl) (by rfl) T.z_tuple (by decide +kernel) (pa_cons (pe_slice (k_slG (K := K) rfl) (pv 12) (po_some (pe_callB (k_lenS (K := K) rfl) (by rfl) T.z_len (by decide +kernel) (pa_cons (pe_ix (k_ix (K := K) rfl) (pe_ix (k_ix (K := K) rfl) (pv 13) (pv 8) (fun _ _ => rfl)) pe_int (fun _ _ => rfl)) pa_nil))) po_none) pa_nil)) (pa_cons (pe_ix (k_ix (K := K) rfl) (pv 7) (pv 8) (fun _ _ => rfl)) pa_nil))) (by intro _; rfl))) (pss_one (ps_ret pe_bl)) pss_nil))))))
      (pss_one (ps_ret (pe_callG (ok_L_refused T) hA (hr.mono (by decide)) (by rfl) T.g_L_refused T.F_L_refused.kp T.b_L_refused pass0 (pa_cons (pv 1) (pa_cons (pv 3) (pa_cons (pv 2) (pa_cons (pv 6) pa_nil))))))))))))))))))), ?_⟩
    refine go_start (σ' := [some (.ref a), none, none, none, none, none, none, none, none, none, none, none, none, none, none, none, none]) rfl ?_
    try dsimp only [cxOf, Cx.nox, Cx.wish]
    walk_at "GO"
    refine ⟨a, sc, 800, rfl, hS, hlen, by omega, by omega, fun p H1 hp s1 hP1 => ?_⟩
    walk_at "GO"
    refine ⟨p, rfl, hP1, fun vN H2 nd e wd f2 hP2 rN2 ok hw1 hpm he1 ho1 hend => ?_⟩
    clear hS hS0 s1 f2 hP1
    walk_at "GO"
    refine ⟨vN, e, nd, wd, rfl, rN2, ok, hpm, fun q H3 hq s3 hN3 => ?_⟩
    have hP3 := hP2.same s3
    have rN3 := RNetE.mono _ _ _ _ s3 rN2
    have hqp : q ≠ p := hP2.ne hq
    clear hP2 rN2 hq s3
    obtain ⟨an, v1, v2, v3, v4, rfl, hn1, ⟨ae, evs, rfl, hae, hel, _⟩, _, _, _⟩ := id rN3
    have e12 := ok.e12
    walk_at "GO"
    refine w_dnew fun kd hkd => ?_
    have s4 := Same.new (o := .dT []) hkd
    have hK4 : KD K nd (upd H3 kd (.dT [])) kd 0 := ⟨[], upd_same, Nat.le_refl _, fun pre l v h => by cases h⟩
    have hkp : kd ≠ p := hP3.ne hkd
    have hqk : q ≠ kd := fun z => netSome hN3 (z ▸ hkd)
    generalize upd H3 kd (.dT []) = H4 at s4 hK4 ⊢
    walk_at "GO"
    rename_i J H5 hJ s5 e5 U H6 hU s6 e6
    -- four cells change: the pool, the known rows, the jobs, what is due
    have hP6 := ((hP3.same s4).same s5).same s6
    have hK6 := (hK4.same s5).same s6
    have hJp : J ≠ p := (hP3.same s4).ne hJ
    have hUp : U ≠ p := ((hP3.same s4).same s5).ne hU
    have hJk : J ≠ kd := fun z => by obtain ⟨_, g, _⟩ := hK4; rw [z, g] at hJ; cases hJ
    have hUk : U ≠ kd := fun z => by obtain ⟨_, g, _⟩ := hK4.same s5; rw [z, g] at hU; cases hU
    have hUJ : U ≠ J := fun z => by rw [z, e5] at hU; cases hU
    have hN5 := hN3.mono (s4.trans s5)
    have hN6 := hN5.mono s6
    have hqJ : q ≠ J := fun z => netSome (hN3.mono s4) (z ▸ hJ)
    have hqU : q ≠ U := fun z => netSome hN5 (z ▸ hU)
    have rN6 := RNetE.mono _ _ _ _ ((s4.trans s5).trans s6) rN3
    have e5' := s6 _ _ e5
    have hnt6 : ∀ c ∈ [p, kd, J, U], NTup (H6 c) := fun c hc => by
      simp only [List.mem_cons, List.not_mem_nil, or_false] at hc
      rcases hc with rfl | rfl | rfl | rfl
      · exact hP6.nt
      · obtain ⟨_, g, _⟩ := hK6; exact NTup.dT g
      · exact NTup.lst e5'
      · exact NTup.lst e6
    have hq4 : q ∉ [p, kd, J, U] := fun h => by
      simp only [List.mem_cons, List.not_mem_nil, or_false] at h
      rcases h with h | h | h | h
      · exact hqp h
      · exact hqk h
      · exact hqJ h
      · exact hqU h
    have hNs : IsNet K T.c_Net (hs [p, kd, J, U] H6) q nd e := net_hs hq4 hnt6 hN6
    have rNs : RNetE K e (hs [p, kd, J, U] H6) (.ref an) nd := rep_hs RNetE.tup rN6 hnt6
    clear hN3 hN5 hN6 rN3 rN6 hP3 s4 s5 hK4 hkd hJ hU e5 s6 hqp hqk hqJ hqU hnt6
    refine ⟨p, 8, rfl, hP6, by omega, fun r H7 r0 r1 f7 hP7 => ?_⟩
    have hK7 : KD K nd H7 kd 0 := hK6.fr f7 hkp hP6.nt
    have e57 := f7 _ _ hJp e5'
    have e67 := f7 _ _ hUp e6
    have F7 : FrS [p, kd, J, U] H6 H7 := FrS.of f7 List.mem_cons_self
    clear f7 hK6 hP6 e5' e6 hn1 hae
    walk_at "GO"
    refine l_range (fun i σ H' => ∃ (y8 y9 y10 y11 y12 : Option V) (jvs uvs : List V) (js : List JN), σ = [some (.ref a), some (.ref p), some (.ref an), some (.ref q), some (.int (evs.length : Int)), some (.ref kd), some (.ref J), some (.ref U), y8, y9, y10, y11, y12, none, none, none, none] ∧ FrS [p, kd, J, U] H6 H' ∧ IsPool H' p ∧ KD K nd H' kd (400 * i) ∧ H' J = some (.lst jvs) ∧ H' U = some (.lst uvs) ∧ js.length = i ∧
        RA (fun y d => RJob K (hs [p, kd, J, U] H') y (toJob nd d)) jvs js ∧ RA (fun y d => RSeq false K (RRow K) (hs [p, kd, J, U] H') y (dueD nd d)) uvs js ∧ ∀ d ∈ js, JNok nd d)
      (by omega) (by omega) ⟨none, none, none, none, none, [], [], [], rfl, F7, hP7, hK7, e57, e67, rfl, RA.nil, RA.nil, List.forall_mem_nil _⟩ ?_ ?_
    · clear F7 hP7 hK7 e57 e67
      rintro i σ H8 hi ⟨y8, y9, y10, y11, y12, jvs, uvs, js, rfl, F8, hP8, hK8, hJ8, hU8, hjl, hjr, hur, hjo⟩
      walk_at "GO"
      refine ⟨p, 9, rfl, hP8, by omega, fun rb H9 b0 b1 f9 hP9 => ?_⟩
      walk_at "GO"
      -- the letters before
      refine c_poolR (R := RInt) (fun z => 0 ≤ z ∧ z < (evs.length : Int)) RInt.mono RInt.tup hP9 (by omega) (by omega) (fun _ => rfl) (fun m H1 N hm f hP hN => ?_) (fun D1 H10 ys1 bsI hD1 f10 hP10 e10 hyl1 hbl hyr1 hbP => ?_)
      · walk_at "GO"
        exact ⟨p, (evs.length : Int), rfl, hP, by omega, fun z H2 z0 z1 f2 hP2 => hN _ _ _ f2 hP2 rfl ⟨z0, z1⟩⟩
      obtain rfl : ys1 = bsI.map V.int := vec_of (by omega) fun i y h => by
        have hi := (List.getElem?_eq_some_iff.mp h).1
        have hd : bsI[i]? = some (bsI[i]'(by omega)) := List.getElem?_eq_getElem (by omega)
        have h3 : y = .int _ := hyr1 i y _ h hd
        rw [h3, nth_nat, List.getD_eq_getElem?_getD, hd]
        rfl
      walk_at "GO"
      rename_i tb H11 htb s11 e11
      have hP11 := hP10.same s11
      have htbp : tb ≠ p := hP10.ne htb
      refine ⟨p, 7, rfl, hP11, by omega, fun rl H12 l0 l1 f12 hP12 => ?_⟩
      have e12 := f12 _ _ htbp e11
      walk_at "GO"
      refine c_poolR (R := RInt) (fun z => 0 ≤ z ∧ z < (evs.length : Int)) RInt.mono RInt.tup hP12 (by omega) (by omega) (fun _ => rfl) (fun m H1 N hm f hP hN => ?_) (fun D2 H13 ys2 lsI hD2 f13 hP13 e13 hyl2 hll hyr2 hlP => ?_)
      · walk_at "GO"
        exact ⟨p, (evs.length : Int), rfl, hP, by omega, fun z H2 z0 z1 f2 hP2 => hN _ _ _ f2 hP2 rfl ⟨z0, z1⟩⟩
      obtain rfl : ys2 = lsI.map V.int := vec_of (by omega) fun i y h => by
        have hi := (List.getElem?_eq_some_iff.mp h).1
        have hd : lsI[i]? = some (lsI[i]'(by omega)) := List.getElem?_eq_getElem (by omega)
        have h3 : y = .int _ := hyr2 i y _ h hd
        rw [h3, nth_nat, List.getD_eq_getElem?_getD, hd]
        rfl
      walk_at "GO"
      rename_i tl H14 htl s14 e14 R0 H15 hR0 s15 e15
      have f814 := ((((f9.trans f10).trans (Fr.same s11)).trans f12).trans f13).trans (Fr.same s14)
      have f815 := f814.trans (Fr.same s15)
      have hP14 := hP13.same s14
      have hP15 := hP14.same s15
      have hK15 : KD K nd H15 kd (400 * i) := hK8.fr f815 hkp hP8.nt
      have hJ15 := f815 _ _ hJp hJ8
      have hU15 := f815 _ _ hUp hU8
      have ebs := s15 _ _ (s14 _ _ (f13 _ _ htbp e12))
      have els := s15 _ _ e14
      have hRp : R0 ≠ p := hP14.ne hR0
      have hRJ : R0 ≠ J := fun z => by rw [z, f814 _ _ hJp hJ8] at hR0; cases hR0
      have hRU : R0 ≠ U := fun z => by rw [z, f814 _ _ hUp hU8] at hR0; cases hR0
      have hRk : R0 ≠ kd := fun z => by
        obtain ⟨_, g, _⟩ := hK8.fr f814 hkp hP8.nt
        rw [z, g] at hR0
        cases hR0
      obtain ⟨bs, rfl⟩ : ∃ bs : List Nat, bsI = natI bs := ⟨bsI.map Int.toNat, (natI_of hbP).symm⟩
      obtain ⟨ls, rfl⟩ : ∃ ls : List Nat, lsI = natI ls := ⟨lsI.map Int.toNat, (natI_of hlP).symm⟩
      rw [natI_len] at hbl hll
      have hbn : ∀ l ∈ bs, l < nd.emb.length := fun l hl => by
        have := (hbP ((l : Nat) : Int) (List.mem_map.mpr ⟨l, hl, rfl⟩)).2
        omega
      have hln : ∀ l ∈ ls, l < nd.emb.length := fun l hl => by
        have := (hlP ((l : Nat) : Int) (List.mem_map.mpr ⟨l, hl, rfl⟩)).2
        omega
      have F15 := F8.trans (FrS.of f815 List.mem_cons_self)
      have hR8 : hs [p, kd, J, U] H8 R0 = none := none_back (FrS.of f814 List.mem_cons_self) hR0
      have hR6 : hs [p, kd, J, U] H6 R0 = none := none_back (F8.trans (FrS.of f814 List.mem_cons_self)) hR0
      clear f9 f10 f12 f13 f814 s11 s14 s15 e10 e11 e12 e13 e14 hP9 hP10 hP11 hP12 hP13 hP14 hyr1 hyr2 hbP hlP
      have hb8 : bs.length ≤ 8 := by omega
      have hl6 : ls.length ≤ 6 := by omega
      have hbsl := natI_len bs
      have hlsl := natI_len ls
      have hbS := Sq.tup (K := K) ebs
      have hlS := Sq.tup (K := K) els
      walk_at "GO"
      have hnt15 : ∀ c ∈ [p, kd, J, U], NTup (H15 c) := fun c hc => by
        simp only [List.mem_cons, List.not_mem_nil, or_false] at hc
        rcases hc with rfl | rfl | rfl | rfl
        · exact hP15.nt
        · obtain ⟨_, g, _⟩ := hK15; exact NTup.dT g
        · exact NTup.lst hJ15
        · exact NTup.lst hU15
      have tbn := tup_not hnt15 ebs
      have tln := tup_not hnt15 els
      have tbk : tb ≠ kd := fun z => tbn (by rw [z]; simp)
      have tlk : tl ≠ kd := fun z => tln (by rw [z]; simp)
      have tbR : tb ≠ R0 := fun z => by rw [z, e15] at ebs; cases ebs
      have tlR : tl ≠ R0 := fun z => by rw [z, e15] at els; cases els
      have hkJ : J ≠ kd := hJk
      have hkU : U ≠ kd := hUk
      clear hnt15
      refine l_range (fun j σ H' => ∃ (y9 : Option V) (rvs : List V), σ = [some (.ref a), some (.ref p), some (.ref an), some (.ref q), some (.int (evs.length : Int)), some (.ref kd), some (.ref J), some (.ref U), some (.int (i : Int)), y9, some (.ref tb), some (.ref tl), some (.ref R0), none, none, none, none] ∧ FrS [p, kd, J, U] H6 H' ∧ IsPool H' p ∧ KD K nd H' kd (400 * i + 14 * j) ∧ H' J = some (.lst jvs) ∧ H' U = some (.lst uvs) ∧ H' tb = some (.tup ((natI bs).map V.int)) ∧ H' tl = some (.tup ((natI ls).map V.int)) ∧ H' R0 = some (.lst rvs) ∧ FrS [p, kd, J, U] H8 H' ∧ rvs.length = j ∧ ∀ (k : Nat) y d, rvs[k]? = some y → (rowsD nd ((bs ++ ls).take j) [])[k]? = some d → RRow K H' y d)
        (by omega) (by omega) ⟨_, [], rfl, F15, hP15, hK15, hJ15, hU15, ebs, els, e15, FrS.of f815 List.mem_cons_self, rfl, fun k y d h => by simp at h⟩ ?_ ?_
      · clear hK15 hP15 hJ15 hU15 e15 ebs els hbS hlS F15
        rintro j σ H16 hj ⟨y9, rvs, rfl, F16, hP16, hK16, hJ16, hU16, ebs16, els16, hR16, F816, hrl, hrr⟩
        have hjt : j < (bs ++ ls).length := by rw [List.length_append]; omega
        obtain ⟨l, hl⟩ : ∃ l, (bs ++ ls)[j]? = some l := ⟨_, List.getElem?_eq_getElem hjt⟩
        have htk : (bs ++ ls).take (j + 1) = (bs ++ ls).take j ++ [l] := by rw [List.take_add_one, hl]; rfl
        have hbln : ∀ x ∈ bs ++ ls, x < nd.emb.length := fun x hx => by
          rcases List.mem_append.mp hx with h | h
          · exact hbn x h
          · exact hln x h
        have htl : ((bs ++ ls).take j).length = j := by rw [List.length_take]; omega
        walk_at "GO"
        refine w_catTq ebs16 els16 (by rw [List.length_map, List.length_map]; omega) fun c1 H17 s17 e17 => ?_
        rw [← List.map_append, ← natI_app] at e17
        walk_at "GO"
        refine w_slTq (b := false) (ys := (natI ((bs ++ ls).take (j + 1))).map V.int) (show Tq false K H17 c1 _ from e17) (by rw [cutV_intTo (by omega) (by rw [List.length_map, natI_len]; omega), natI_takeK, show ((j : Int) + 1).toNat = j + 1 by omega]) fun c2 H18 s18 e18 => ?_
        have s1618 := s17.trans s18
        have hR18 := s1618 _ _ hR16
        rw [htk] at e18
        walk_at "GO"
        refine ⟨.ref an, e, kd, c2, nd, wd, 400 * i + 14 * j, (bs ++ ls).take j, l, rfl, RNetE.mono _ _ _ _ (F16.trans (FrS.same s1618)) rNs, ok, hK16.same s1618, by omega, e18, by rw [← htk]; exact fun x hx => hbln x (List.mem_of_mem_take hx), by omega, fun v' H19 f19 hK19 r19 => ?_⟩
        have hR19 := f19 _ _ hRk hR18
        have hnk : NTup (H18 kd) := by obtain ⟨_, g, _⟩ := hK16.same s1618; exact NTup.dT g
        walk_at "GO"
        refine w_append hR19 (line_of1 (by omega)) ?_
        walk_at "GO"
        have F19 := F16.trans ((FrS.same s1618).trans (FrS.of f19 (by simp)))
        have ntR : NTup (H19 R0) := NTup.lst hR19
        refine ⟨_, rvs ++ [v'], rfl, Same.mut F19 hR6, ((hP16.same s1618).fr f19 (Ne.symm hkp)).upd hRp, KD.updL ntR hRk (hK19.le (by rw [htl]; omega)), (upd_ne (Ne.symm hRJ)).trans (f19 _ _ hkJ (s1618 _ _ hJ16)), (upd_ne (Ne.symm hRU)).trans (f19 _ _ hkU (s1618 _ _ hU16)), (upd_ne tbR).trans (f19 _ _ tbk (s1618 _ _ ebs16)), (upd_ne tlR).trans (f19 _ _ tlk (s1618 _ _ els16)), upd_same, Same.mut (F816.trans ((FrS.same s1618).trans (FrS.of f19 (by simp)))) hR8, by rw [List.length_append, hrl]; rfl, fun k y d h1 h2 => ?_⟩
        refine RTup.upd RRow.tup RRow.mono ntR ?_
        rw [htk, rowsD_snoc] at h2
        have hrl2 : (rowsD nd ((bs ++ ls).take j) []).length = j := by rw [rowsD_len, htl]; simp only [List.length_nil]; omega
        by_cases hk : k < j
        · rw [List.getElem?_append_left (by omega)] at h1 h2
          exact Fr.rep RRow.mono RRow.tup f19 hnk (RRow.mono _ _ _ _ s1618 (hrr k y d h1 h2))
        · have hk1 := (List.getElem?_eq_some_iff.mp h1).1
          rw [List.length_append] at hk1
          have ek : k = j := by
            have : k < rvs.length + 1 := hk1
            omega
          subst ek
          rw [List.getElem?_append_right (by omega), hrl, Nat.sub_self] at h1
          rw [List.getElem?_append_right (by omega), hrl2, Nat.sub_self] at h2
          cases h1
          cases h2
          exact r19
      · clear hK15 hP15 hJ15 hU15 e15 ebs els hbS hlS F15
        rintro σ H16 ⟨y9, rvs, rfl, F16, hP16, hK16, hJ16, hU16, ebs16, els16, hR16, F816, hrl, hrr⟩
        have hbS := Sq.tup (K := K) ebs16
        have hlS := Sq.tup (K := K) els16
        have en : ((((natI bs).length : Nat) : Int) + (((natI ls).length : Nat) : Int)).toNat = (bs ++ ls).length := by rw [List.length_append]; omega
        rw [en] at hrl hrr
        rw [List.take_length] at hrr
        have hal : (aheadD nd (bs, ls)).length = bs.length := aheadD_len nd (bs, ls)
        have hall : rowsD nd (bs ++ ls) [] = aheadD nd (bs, ls) ++ dueD nd (bs, ls) := by rw [rowsD_app]; exact rowsD_job nd _ ls
        rw [hall] at hrr
        rw [List.length_append] at hrl
        have hK16 := hK16.le (M := 400 * (i + 1)) (by rw [en, List.length_append]; omega)
        walk_at "GO"
        refine w_slL (ys := rvs.take bs.length) hR16 (by rw [cutV_intTo (by omega) (by omega)]; congr 1) fun A1 H17 hA1 s17 e17 => ?_
        have hA1p : A1 ≠ p := hP16.ne hA1
        walk_at "GO"
        refine ⟨p, A1, true, _, rfl, hP16.same s17, Sq.lst e17, hA1p, by rw [List.length_take]; omega, fun A2 b2 H18 f18 hP18 hS18 hn18 => ?_⟩
        have els18 := f18 _ _ (fun z => tln (by rw [z]; simp)) (s17 _ _ els16)
        walk_at "GO"
        refine ⟨p, tl, false, _, rfl, hP18, Sq.tup els18, fun z => tln (by rw [z]; simp), by rw [List.length_map]; omega, fun A3 b3 H19 f19 hP19 hS19 hn19 => ?_⟩
        walk_at "GO"
        rename_i T1 H20 hT1 s20 e20
        have f1619 := ((Fr.same (t := p) s17).trans f18).trans f19
        have f1620 := f1619.trans (Fr.same s20)
        have hJ20 := f1620 _ _ hJp hJ16
        refine w_append hJ20 (line_of1 (by have := hjr.1; omega)) ?_
        have hR20 := f1620 _ _ hRp hR16
        have hU20 := f1620 _ _ hUp hU16
        have hP20 := hP19.same s20
        have hK20 := hK16.fr f1620 hkp hP16.nt
        have F20 := F16.trans (FrS.of f1620 List.mem_cons_self)
        have hJ21 : upd H20 J (.lst (jvs ++ [.ref T1])) J = some (.lst (jvs ++ [.ref T1])) := upd_same
        have hR21 := (upd_ne (o := .lst (jvs ++ [.ref T1])) hRJ).trans hR20
        have hU21 := (upd_ne (o := .lst (jvs ++ [.ref T1])) hUJ).trans hU20
        have hP21 := hP20.upd (o := .lst (jvs ++ [.ref T1])) hJp
        have hK21 := KD.updL (o := .lst (jvs ++ [.ref T1])) (NTup.lst hJ20) hJk hK20
        have F21 := F20.upd (.lst (jvs ++ [.ref T1])) (a := J) (by simp)
        have hbS21 : Sq false K (upd H20 J (.lst (jvs ++ [.ref T1]))) tb ((natI bs).map V.int) := Sq.tup ((upd_ne (fun z => tbn (by rw [z]; simp))).trans (f1620 _ _ (fun z => tbn (by rw [z]; simp)) ebs16))
        have g2021 : FrS [p, kd, J, U] H20 (upd H20 J (.lst (jvs ++ [.ref T1]))) := (FrS.same (Same.refl _)).upd _ (by simp)
        generalize upd H20 J (.lst (jvs ++ [.ref T1])) = H21 at hJ21 hR21 hU21 hP21 hK21 F21 hbS21 g2021 ⊢
        walk_at "GO"
        refine w_slL (ys := rvs.drop bs.length) hR21 (by rw [show (((natI bs).length : Nat) : Int) = ((bs.length : Nat) : Int) by omega]; exact cutV_from (by omega)) fun A4 H22 hA4 s22 e22 => ?_
        walk_at "GO"
        rename_i T2 H23 hT2 s23 e23
        have s2123 := s22.trans s23
        have hU23 := s2123 _ _ hU21
        refine w_append hU23 (line_of1 (by have := hur.1; omega)) ?_
        walk_at "GO"
        have ntS : ∀ {G : Hp}, IsPool G p → (∃ N, KD K nd G kd N) → (∃ ys, G J = some (.lst ys)) → (∃ ys, G U = some (.lst ys)) → ∀ c ∈ [p, kd, J, U], NTup (G c) := fun {G} hp hk ⟨_, hj⟩ ⟨_, hu⟩ c hc => by
          simp only [List.mem_cons, List.not_mem_nil, or_false] at hc
          rcases hc with rfl | rfl | rfl | rfl
          · exact hp.nt
          · obtain ⟨_, _, g, _⟩ := hk; exact NTup.dT g
          · exact NTup.lst hj
          · exact NTup.lst hu
        have nt16 := ntS hP16 ⟨_, hK16⟩ ⟨_, hJ16⟩ ⟨_, hU16⟩
        have nt20 := ntS hP20 ⟨_, hK20⟩ ⟨_, hJ20⟩ ⟨_, hU20⟩
        have nt23 := ntS (hP21.same s2123) ⟨_, hK21.same s2123⟩ ⟨_, s2123 _ _ hJ21⟩ ⟨_, hU23⟩
        have f8H16 : Same (hs [p, kd, J, U] H8) H16 := F816
        -- the new job
        have nA2 : A2 ∉ [p, kd, J, U] := fun h => by
          rcases hn18 with h0 | ⟨h0, _⟩
          · obtain ⟨o, ho⟩ : ∃ o, H17 A2 = some o := by
              simp only [List.mem_cons, List.not_mem_nil, or_false] at h
              rcases h with rfl | rfl | rfl | rfl
              · obtain ⟨_, g, _⟩ := hP16.same s17; exact ⟨_, g⟩
              · obtain ⟨_, g, _⟩ := hK16.same s17; exact ⟨_, g⟩
              · exact ⟨_, s17 _ _ hJ16⟩
              · exact ⟨_, s17 _ _ hU16⟩
            rw [ho] at h0; cases h0
          · cases h0
        have nA3 : A3 ∉ [p, kd, J, U] := fun h => by
          rcases hn19 with h0 | ⟨_, h0⟩
          · obtain ⟨o, ho⟩ : ∃ o, H18 A3 = some o := by
              simp only [List.mem_cons, List.not_mem_nil, or_false] at h
              rcases h with rfl | rfl | rfl | rfl
              · obtain ⟨_, g, _⟩ := hP18; exact ⟨_, g⟩
              · obtain ⟨_, g, _⟩ := (hK16.same s17).fr f18 hkp (hP16.same s17).nt; exact ⟨_, g⟩
              · exact ⟨_, f18 _ _ hJp (s17 _ _ hJ16)⟩
              · exact ⟨_, f18 _ _ hUp (s17 _ _ hU16)⟩
            rw [ho] at h0; cases h0
          · rw [h0] at h; exact tln h
        have nT1 : T1 ∉ [p, kd, J, U] := tup_not nt20 e20
        have nT2 : T2 ∉ [p, kd, J, U] := tup_not nt23 e23
        have hS20 : Sq b2 K H20 A2 (rvs.take bs.length) := s20.sq (frSqN f19 (fun z => nA2 (by rw [z]; simp)) hS18)
        have hS20' : Sq b3 K H20 A3 ((natI ls).map V.int) := s20.sq hS19
        have rows20 : ∀ (k : Nat) y d, rvs[k]? = some y → (aheadD nd (bs, ls) ++ dueD nd (bs, ls))[k]? = some d → RRow K (hs [p, kd, J, U] H20) y d := fun k y d h1 h2 => rep_hs RRow.tup (Fr.rep RRow.mono RRow.tup f1620 hP16.nt (hrr k y d h1 h2)) nt20
        have jobNew : RJob K (hs [p, kd, J, U] H20) (.ref T1) (toJob nd (bs, ls)) := by
          refine ⟨T1, A2, A3, b2, b3, rfl, sq_hs nT1 (Sq.tup e20), ⟨A2, _, rfl, sq_hs nA2 hS20, by rw [List.length_take]; show _ = (aheadD nd (bs, ls)).length; omega, fun k y d h1 h2 => ?_⟩, sq_hs nA3 hS20'⟩
          have h2 : (aheadD nd (bs, ls))[k]? = some d := h2
          have hk := (List.getElem?_eq_some_iff.mp h2).1
          refine rows20 k y d ?_ (by rw [List.getElem?_append_left hk]; exact h2)
          rw [List.getElem?_take_of_lt (by omega)] at h1
          exact h1
        have dueNew : RSeq false K (RRow K) (hs [p, kd, J, U] H23) (.ref T2) (dueD nd (bs, ls)) := by
          refine ⟨T2, _, rfl, sq_hs nT2 (Sq.tup e23), ?_, fun k y d h1 h2 => ?_⟩
          · have : (dueD nd (bs, ls)).length = ls.length := jobRows_len _ _ _
            rw [List.length_drop, this]; omega
          · rw [List.getElem?_drop] at h1
            have h := rows20 _ y d h1 (by rw [List.getElem?_append_right (by omega), hal, Nat.add_sub_cancel_left]; exact h2)
            exact RRow.mono _ _ _ _ ((g2021.trans (FrS.same s2123)).hs) h
        have hsF : Same (hs [p, kd, J, U] H8) (hs [p, kd, J, U] H20) := (F816.trans (FrS.of f1620 List.mem_cons_self)).hs
        have hs2023 : Same (hs [p, kd, J, U] H20) (hs [p, kd, J, U] H23) := (g2021.trans (FrS.same s2123)).hs
        have hsEnd : Same (hs [p, kd, J, U] H23) (hs [p, kd, J, U] (upd H23 U (.lst (uvs ++ [.ref T2])))) := FrS.hs ((FrS.same (Same.refl _)).upd _ (by simp))
        refine ⟨_, _, _, _, _, jvs ++ [.ref T1], uvs ++ [.ref T2], js ++ [(bs, ls)], rfl, (F21.trans (FrS.same s2123)).upd _ (by simp), (hP21.same s2123).upd hUp, KD.updL (NTup.lst hU23) hUk (hK21.same s2123), (upd_ne (Ne.symm hUJ)).trans (s2123 _ _ hJ21), upd_same, by rw [List.length_append, hjl]; rfl, ((hjr.imp fun y d h => RJob.mono (hsF.trans hs2023) h).push (RJob.mono hs2023 jobNew)).imp fun y d h => RJob.mono hsEnd h, ((hur.imp fun y d h => RSeq.mono RRow.mono _ _ _ _ (hsF.trans hs2023) h).push dueNew).imp fun y d h => RSeq.mono RRow.mono _ _ _ _ hsEnd h, fun d hd => ?_⟩
        rcases List.mem_append.mp hd with h | h
        · exact hjo d h
        · rw [List.mem_singleton.mp h]; exact ⟨hb8, hl6, hbn, hln⟩
    · clear F7 hP7 hK7 e57 e67
      rintro σ H8 ⟨y8, y9, y10, y11, y12, jvs, uvs, js, rfl, F8, hP8, hK8, hJ8, hU8, hjl, hjr, hur, hjo⟩
      have hjvl := hjr.1
      have huvl := hur.1
      have hjl8 : js.length ≤ 8 ∧ 1 ≤ js.length := by omega
      clear hK8
      walk_at "GO"
      -- what is kept
      refine c_rep (R := RPair K (RSeq false K (RRow K)) (RVec false K)) (RPair.mono (RSeq.mono RRow.mono) RVec.mono) (RPair.tup (RSeq.tup RRow.tup) RVec.tup) jvs (Sq.lst hJ8) (js.map (toJob nd)) (by rw [List.length_map]; omega) (line_of (by omega)) (fun _ => rfl) (fun i x d H9 N hi hxi hd s9 hN2 => ?_) (fun D H9 kvs hD s9 eD hkl hkr => ?_)
      · rw [List.getElem?_map] at hd
        obtain ⟨dn, ed⟩ : ∃ dn, js[i]? = some dn := ⟨_, List.getElem?_eq_getElem (by omega)⟩
        rw [ed] at hd
        cases hd
        obtain ⟨t, ar, al, b1, b2, rfl, ht, ⟨_, rows, er, hR, hRl, hRr⟩, hL⟩ := (hjr.2 i x dn hxi ed).mono ((hs_same _ _).trans s9)
        cases er
        walk_at "GO"
        refine w_tupAny hR fun t1 H10 s10 h10 => ?_
        have ht10 := s10.sq ht
        clear ht
        walk_at "GO"
        refine w_tupAny (s10.sq hL) fun t2 H11 s11 h11 => ?_
        walk_at "GO"
        rename_i t3 H12 ht3 s12 e12
        exact hN2 _ _ ((s10.trans s11).trans s12) ⟨t3, .ref t1, .ref t2, rfl, Sq.tup e12, ⟨t1, rows, rfl, (s11.trans s12).sq h10, hRl, fun i y x h1 h2 => RRow.mono _ _ _ _ ((s10.trans s11).trans s12) (hRr i y x h1 h2)⟩, ⟨t2, rfl, s12.sq h11⟩⟩
      rw [List.length_map] at hkl
      walk_at "GO"
      -- what is handed in
      refine ⟨p, J, true, jvs, rfl, hP8.same s9, Sq.lst (s9 _ _ hJ8), hJp, by omega, fun Ah bh H10 f10 hP10 hS10 _ => ?_⟩
      have hDp : D ≠ p := hP8.ne hD
      have F810 : FrS [p, kd, J, U] H8 H10 := (FrS.same s9).trans (FrS.of f10 List.mem_cons_self)
      have hN10 := hNs.mono (F8.trans F810)
      have rN10 := RNetE.mono _ _ _ _ (F8.trans F810) rNs
      have hJ10 := f10 _ _ hJp (s9 _ _ hJ8)
      have hU10 := f10 _ _ hUp (s9 _ _ hU8)
      have eD10 := f10 _ _ hDp eD
      have hjr10 := hjr.imp fun y d h => RJob.mono F810.hs h
      have hjr10' := hjr.imp fun y d h => RJob.mono F810 h
      have hur10 := hur.imp fun y d h => RSeq.mono RRow.mono _ _ _ _ F810 h
      have hkr10 : ∀ (i : Nat) y d, kvs[i]? = some y → (js.map (toJob nd))[i]? = some d → RPair K (RSeq false K (RRow K)) (RVec false K) H10 y d := fun i y d h1 h2 => Fr.rep (RPair.mono (RSeq.mono RRow.mono) RVec.mono) (RPair.tup (RSeq.tup RRow.tup) RVec.tup) f10 (hP8.same s9).nt (hkr i y d h1 h2)
      have hjrH : RA (fun y d => RJob K (hide p H10) y (toJob nd d)) jvs js := hjr10.imp fun y d h => RJob.mono (hs_hide (by simp)) h
      have hN10h : IsNet K T.c_Net (hide p H10) q nd e := (hNs.mono (F8.trans F810).hs).mono (hs_hide (by simp))
      have rN10h : RNetE K e (hide p H10) (.ref an) nd := RNetE.mono _ _ _ _ (hs_hide (by simp)) (RNetE.mono _ _ _ _ (F8.trans F810).hs rNs)
      clear hkr hjr hur eD f10 hJ8 hU8 hP8 s9 hD F810
      walk_at "GO"
      refine ⟨q, Ah, nd, e, wd, bh, jvs, js.map (toJob nd), rfl, hN10, ok, hS10, by rw [List.length_map]; exact hjvl, (hjr10'.map (P := RJob K H10)).2, by rw [List.length_map]; omega, fun d hd => ?_, fun _ v' H11 s11 r11 => ?_, fun x hx => (hx.not fun d hd => ?_).elim⟩
      · obtain ⟨dn, hdn, rfl⟩ := List.mem_map.mp hd
        have o := hjo dn hdn
        refine ⟨(jobs_ok ok o).1, ?_, ?_⟩
        · show (aheadD nd dn).length ≤ 1000
          rw [aheadD_len]; have := o.1; omega
        · show (natI dn.2).length ≤ 1000
          rw [natI_len]; have := o.2.1; omega
      · rw [jobs_due] at r11
        have hU11 := s11 _ _ hU10
        walk_at "GO"
        rename_i tU H12 htU s12 e12
        have s1012 := s11.trans s12
        refine ⟨_, _, rfl, SmC.seq (by rw [List.length_map]; omega) (fun x y d hd a b => ?_) (RSeq.mono (RSeq.mono RRow.mono) _ _ _ _ s12 r11) ((hur10.imp fun y d h => RSeq.mono RRow.mono _ _ _ _ s1012 h).seqT (Sq.tup e12)), fun H13 s13 => ?_⟩
        · obtain ⟨dn, hdn, rfl⟩ := List.mem_map.mp hd
          have o := hjo dn hdn
          refine SmC.rows ok ?_ (jobs_ok ok o).2 a b
          show (jobRows nd _ _).length ≤ 100000
          rw [jobRows_len]; have := o.2.1; omega
        have s1013 := s1012.trans s13
        have hS13 := s1013.sq hS10
        have hJ13 : Sq true K H13 J jvs := Sq.lst (s1013 _ _ hJ10)
        walk_at "GO"
        refine w_iteN (fun h => absurd rfl h) (fun _ => ?_)
        walk_at "GO"
        refine l_range (fun i σ H' => ∃ (y8 y9 y10 y11 y12 y15 y16 : Option V), σ = [some (.ref a), some (.ref p), some (.ref an), some (.ref q), some (.int (evs.length : Int)), some (.ref kd), some (.ref J), some (.ref U), y8, y9, y10, y11, y12, some (.ref D), some (.ref Ah), y15, y16] ∧ Same H10 H')
          (by omega) (by omega) ⟨_, _, _, _, _, _, _, rfl, s1013⟩ ?_ ?_
        · rintro i σ H14 hi ⟨y8, y9, y10, y11, y12, y15, y16, rfl, s14⟩
          clear hJ13 hS13 s1013 s1012 s11 s12 s13 hU11 r11 e12
          have hij : i < js.length := by omega
          have hyi : jvs[i]? = some (jvs[i]'(by omega)) := List.getElem?_eq_getElem (by omega)
          generalize jvs[i]'(by omega) = y at hyi
          have hui : uvs[i]? = some (uvs[i]'(by omega)) := List.getElem?_eq_getElem (by omega)
          generalize uvs[i]'(by omega) = u at hui
          have hki : kvs[i]? = some (kvs[i]'(by omega)) := List.getElem?_eq_getElem (by omega)
          generalize kvs[i]'(by omega) = kv at hki
          have hdi : js[i]? = some (js[i]'(by omega)) := List.getElem?_eq_getElem (by omega)
          generalize js[i]'(by omega) = dn at hdi
          have o := hjo dn (List.mem_of_getElem? hdi)
          obtain ⟨oA, oD⟩ := jobs_ok ok o
          have hal : (aheadD nd dn).length = dn.1.length := aheadD_len nd dn
          have hdl : (dueD nd dn).length = dn.2.length := jobRows_len _ _ _
          have o1 := o.1
          have o2 := o.2.1
          have rj14 := RJob.mono s14 (hjr10'.2 i y dn hyi hdi)
          obtain ⟨tk, kr, kl, rfl, hk14, ⟨akr, krv, rfl, hkr1, hkrl, hkrr⟩, ⟨akl, rfl, hkl1⟩⟩ := RPair.mono (RSeq.mono RRow.mono) RVec.mono _ _ _ _ s14 (hkr10 i kv (toJob nd dn) hki (by rw [List.getElem?_map, hdi]; rfl))
          have ru14 := RSeq.mono RRow.mono _ _ _ _ s14 (hur10.2 i u dn hui hdi)
          obtain ⟨t, ar, al, b1, b2, rfl, ht, ⟨_, rows, er, hR, hRl, hRr⟩, hL⟩ := rj14
          cases er
          have hk14' := hk14
          have hkrl : krv.length = (aheadD nd dn).length := hkrl
          have hRl : rows.length = (aheadD nd dn).length := hRl
          walk_at "GO"
          refine w_ix (Sq.lst (s14 _ _ hJ10)) (atI_nat hyi) ?_
          walk_at "GO"
          refine w_tupAny hR fun t1 H15 s15 h15 => ?_
          walk_at "GO"
          refine w_ix (Sq.lst ((s14.trans s15) _ _ hJ10)) (atI_nat hyi) ?_
          have ht15 := s15.sq ht
          clear ht
          walk_at "GO"
          refine w_tupAny (s15.sq hL) fun t2 H16 s16 h16 => ?_
          walk_at "GO"
          rename_i t3 H17 ht3 s17 e17
          have s1417 := (s15.trans s16).trans s17
          have s1017 := s14.trans s1417
          refine w_ix (Sq.lst (s1017 _ _ eD10)) (atI_nat hki) ?_
          walk_at "GO"
          refine ⟨_, _, rfl, SmC.pair (n := 5) (R := RSeq false K (RRow K)) (R' := RSeq false K (RRow K)) (S := RVec false K) (S' := RVec false K) (p := toJob nd dn) (fun x y a b => SmC.rows ok (by show (aheadD nd dn).length ≤ _; omega) oA a b) (fun x y a b => SmC.vec (by show (natI dn.2).length ≤ _; rw [natI_len]; omega) a b)
            ⟨t3, .ref t1, .ref t2, rfl, Sq.tup e17, ⟨t1, rows, rfl, (s16.trans s17).sq h15, hRl, fun i y x h1 h2 => RRow.mono _ _ _ _ s1417 (hRr i y x h1 h2)⟩, ⟨t2, rfl, s17.sq h16⟩⟩
            ⟨tk, .ref akr, .ref akl, rfl, s1417.sq hk14, ⟨akr, krv, rfl, s1417.sq hkr1, hkrl, fun i y x h1 h2 => RRow.mono _ _ _ _ s1417 (hkrr i y x h1 h2)⟩, ⟨akl, rfl, s1417.sq hkl1⟩⟩, fun H18 s18 => ?_⟩
          have s1018 := s1017.trans s18
          have s1418 := s1417.trans s18
          have hk18 := s1418.sq hk14
          have hkr18 := s1418.sq hkr1
          clear hk14 h15 h16 e17 ht15 hR hL hRr
          walk_at "GO"
          refine w_ix (Sq.lst (s1018 _ _ eD10)) (atI_nat hki) ?_
          walk_at "GO"
          rename_i R1 H19 hR1 s19 e19
          have s1019 := s1018.trans s19
          have s1419 := s1418.trans s19
          have hk19 := s19.sq hk18
          have hkl19 := s1419.sq hkl1
          clear hk18
          refine w_ix (Sq.lst (s1019 _ _ eD10)) (atI_nat hki) ?_
          walk_at "GO"
          have hr0 : ∀ (k : Nat) y x, krv[k]? = some y → (aheadD nd dn)[k]? = some x → RRow K H19 y x := fun k y x h1 h2 => RRow.mono _ _ _ _ s1419 (hkrr k y x h1 h2)
          refine l_seq (b := false) ((natI dn.2).map V.int) (fun j σ H' => ∃ (y15 : Option V) (rvs : List V), σ = [some (.ref a), some (.ref p), some (.ref an), some (.ref q), some (.int (evs.length : Int)), some (.ref kd), some (.ref J), some (.ref U), some (.int (i : Int)), y9, y10, y11, some (.ref R1), some (.ref D), some (.ref Ah), y15, y16] ∧ Same H18 H' ∧ H' R1 = some (.lst rvs) ∧ rvs.length = (aheadD nd dn).length + j ∧ ∀ (k : Nat) y x, rvs[k]? = some y → (rowsD nd (dn.2.take j) (aheadD nd dn))[k]? = some x → RRow K H' y x)
            hkl19 ⟨_, _, rfl, s19, e19, by omega, hr0⟩ (fun j σ H' _ ⟨_, _, _, g, _⟩ => (s1418.trans g).sq hkl1) ?_ ?_
          · clear hr0 e19 hkl19 hk19 hkr18
            rintro j x σ H20 hj hxj ⟨y15, rvs, rfl, s20, eR, hrl, hrr⟩
            have hxj := (vec_at hxj).1
            rw [List.length_map, natI_len] at hj
            obtain ⟨l, hl⟩ : ∃ l, dn.2[j]? = some l := ⟨_, List.getElem?_eq_getElem hj⟩
            have hxl : nth (natI dn.2) (j : Int) = (l : Int) := by
              rw [nth_nat, natI, List.getD_eq_getElem?_getD, List.getElem?_map, hl]
              rfl
            rw [hxl] at hxj
            subst hxj
            have s1020 := s1018.trans s20
            have hN20 := hN10.mono s1020
            have htk : dn.2.take (j + 1) = dn.2.take j ++ [l] := by rw [List.take_add_one, hl]; rfl
            have hrd : (rowsD nd (dn.2.take j) (aheadD nd dn)).length = (aheadD nd dn).length + j := by rw [rowsD_len, List.length_take]; omega
            obtain ⟨dxn, w1, w2, w3, w4, hn0, _⟩ := id hN20
            unfold netF at hn0
            walk_at "GO"
            refine ⟨q, nd, e, .ref R1, true, rowsD nd (dn.2.take j) (aheadD nd dn), l, wd, rfl, hN20, ok, ⟨R1, rvs, rfl, Sq.lst eR, by omega, hrr⟩, rowsD_ok ok _ _ (fun l hl => o.2.2.2 l (List.mem_of_mem_take hl)) oA, by omega, o.2.2.2 l (List.mem_of_getElem? hl), fun v' H21 s21 r21 => ?_⟩
            have eR21 := s21 _ _ eR
            have ntR := NTup.lst eR21
            walk_at "GO"
            refine w_append eR21 (line_of1 (by omega)) ?_
            walk_at "GO"
            refine ⟨_, rvs ++ [v'], rfl, Same.mut (s20.trans s21) hR1, upd_same, by rw [List.length_append, hrl]; rfl, fun k y d h1 h2 => ?_⟩
            refine RTup.upd RRow.tup RRow.mono ntR ?_
            rw [htk, rowsD_snoc] at h2
            by_cases hk : k < rvs.length
            · rw [List.getElem?_append_left (by omega)] at h1 h2
              exact RRow.mono _ _ _ _ s21 (hrr k y d h1 h2)
            · have hk1 := (List.getElem?_eq_some_iff.mp h1).1
              rw [List.length_append] at hk1
              have ek : k = rvs.length := by
                have : k < rvs.length + 1 := hk1
                omega
              subst ek
              rw [List.getElem?_append_right (by omega), Nat.sub_self] at h1
              rw [List.getElem?_append_right (by omega), hrd, hrl, Nat.sub_self] at h2
              cases h1
              cases h2
              exact r21
          · clear hr0 e19 hkl19 hk19 hkr18
            rintro σ H20 ⟨y15, rvs, rfl, s20, eR, hrl, hrr⟩
            rw [List.length_map, natI_len] at hrl hrr
            rw [List.take_length, show rowsD nd dn.2 (aheadD nd dn) = aheadD nd dn ++ dueD nd dn from rowsD_job nd _ _] at hrr
            have s1020 := s1018.trans s20
            have s1420 := s1418.trans s20
            have hk20 := s1420.sq hk14'
            have hkr20 := s1420.sq hkr1
            walk_at "GO"
            refine w_ix (Sq.lst (s1020 _ _ eD10)) (atI_nat hki) ?_
            walk_at "GO"
            refine w_slL (ys := rvs.drop (aheadD nd dn).length) eR (by rw [hkrl]; exact cutV_from (by omega)) fun R2 H21 hR2 s21 e21 => ?_
            walk_at "GO"
            rename_i t5 H22 ht5 s22 e22
            have s2022 := s21.trans s22
            refine w_ix (Sq.lst ((s1020.trans s2022) _ _ hU10)) (atI_nat hui) ?_
            refine ⟨_, _, rfl, SmC.same (n := 6) (Same.refl _) ((SmC.rows ok (by omega) oD ⟨t5, _, rfl, Sq.tup e22, by rw [List.length_drop]; omega, fun k y d h1 h2 => ?_⟩ (RSeq.mono RRow.mono _ _ _ _ (s1420.trans s2022) ru14)).up), fun H23 s23 => ?_⟩
            · rw [List.getElem?_drop] at h1
              refine RRow.mono _ _ _ _ s2022 (hrr _ y d h1 ?_)
              rw [List.getElem?_append_right (by omega), Nat.add_sub_cancel_left]
              exact h2
            walk_at "GO"
            exact ⟨_, _, _, _, _, _, _, rfl, (s1020.trans s2022).trans s23⟩
        · rintro σ H14 ⟨y8, y9, y10, y11, y12, y15, y16, rfl, s14⟩
          clear hJ13 hS13 s1013 s1012 s11 s12 s13 hU11 r11 e12
          walk_at "GO"
          refine ⟨p, q, J, .ref an, e, nd, wd, jvs, js.map (toJob nd), rfl, hP10.same s14, RNetE.mono _ _ _ _ (hide_mono s14) rN10h, hN10h.mono (hide_mono s14), ok, s14 _ _ hJ10, hJp, (hjrH.map (P := RJob K (hide p H10))).imp fun y d h => RJob.mono (hide_mono s14) h, by rw [List.length_map]; exact hjl8.2, by rw [List.length_map]; exact hjl8.1, fun d hd => ?_, fun H' => k H'⟩
          obtain ⟨dn, hdn, rfl⟩ := List.mem_map.mp hd
          have o := hjo dn hdn
          refine ⟨(jobs_ok ok o).1, ?_, ?_, toJob_good o⟩
          · show (aheadD nd dn).length ≤ 100
            rw [aheadD_len]; have := o.1; omega
          · show (natI dn.2).length ≤ 100
            rw [natI_len]; have := o.2.1; omega
      · obtain ⟨dn, hdn, rfl⟩ := List.mem_map.mp hd
        exact toJob_good (hjo dn hdn)

end
theorem all_mk {l : PySem.W.OpenLaw} {w : World} {K : PySem.W.Frag} {h : Heap} {mg : Str → Option Value} {fa CNet CJob CInvalidLetter KPRIMES fInvalidLetter___init__ fis_between fvector_of fmatrix_of fproduct_sum fNet___init__ fNet_is_letter fNet_rest fNet_times fNet_plus fNet_looked_at fNet_row fJob___init__ fJob_go_through fJob_rows frows_in_batch fL_pool fL_draw fL_same fL_vectors fL_net fL_times fL_row fL_behind fL_as_net fL_as fL_refused flaw : Addr} (X : K.In h) (G : h.Ns mainGlobals mg) (hfa : mg "law" = some (.ref fa))
    {odKPRIMES odInvalidLetter___init__ anInvalidLetter___init__ odis_between anis_between odvector_of anvector_of odmatrix_of anmatrix_of odproduct_sum anproduct_sum odNet___init__ anNet___init__ odNet_is_letter anNet_is_letter odNet_rest anNet_rest odNet_times anNet_times odNet_plus anNet_plus odNet_looked_at anNet_looked_at odNet_row anNet_row odJob___init__ anJob___init__ odJob_go_through anJob_go_through odJob_rows anJob_rows odrows_in_batch anrows_in_batch odL_pool anL_pool odL_draw anL_draw odL_same anL_same odL_vectors anL_vectors odL_net anL_net odL_times anL_times odL_row anL_row odL_behind anL_behind odL_as_net anL_as_net odL_as anL_as odL_refused anL_refused odlaw anlaw : Option Addr} {slKPRIMES slInvalidLetter___init__ slis_between slvector_of slmatrix_of slproduct_sum slNet___init__ slNet_is_letter slNet_rest slNet_times slNet_plus slNet_looked_at slNet_row slJob___init__ slJob_go_through slJob_rows slrows_in_batch slL_pool slL_draw slL_same slL_vectors slL_net slL_times slL_row slL_behind slL_as_net slL_as slL_refused sllaw : Array (Option Value)} {ocInvalidLetter___init__ kVInvalidLetter___init__ dcInvalidLetter___init__ pmInvalidLetter___init__ cdInvalidLetter___init__ ctInvalidLetter___init__ ocis_between kVis_between dcis_between pmis_between cdis_between ctis_between ocvector_of kVvector_of dcvector_of pmvector_of cdvector_of ctvector_of ocmatrix_of kVmatrix_of dcmatrix_of pmmatrix_of cdmatrix_of ctmatrix_of ocproduct_sum kVproduct_sum dcproduct_sum pmproduct_sum cdproduct_sum ctproduct_sum ocNet___init__ kVNet___init__ dcNet___init__ pmNet___init__ cdNet___init__ ctNet___init__ ocNet_is_letter kVNet_is_letter dcNet_is_letter pmNet_is_letter cdNet_is_letter ctNet_is_letter ocNet_rest kVNet_rest dcNet_rest pmNet_rest cdNet_rest ctNet_rest ocNet_times kVNet_times dcNet_times pmNet_times cdNet_times ctNet_times ocNet_plus kVNet_plus dcNet_plus pmNet_plus cdNet_plus ctNet_plus ocNet_looked_at kVNet_looked_at dcNet_looked_at pmNet_looked_at cdNet_looked_at ctNet_looked_at ocNet_row kVNet_row dcNet_row pmNet_row cdNet_row ctNet_row ocJob___init__ kVJob___init__ dcJob___init__ pmJob___init__ cdJob___init__ ctJob___init__ ocJob_go_through kVJob_go_through dcJob_go_through pmJob_go_through cdJob_go_through ctJob_go_through ocJob_rows kVJob_rows dcJob_rows pmJob_rows cdJob_rows ctJob_rows ocrows_in_batch kVrows_in_batch dcrows_in_batch pmrows_in_batch cdrows_in_batch ctrows_in_batch ocL_pool kVL_pool dcL_pool pmL_pool cdL_pool ctL_pool ocL_draw kVL_draw dcL_draw pmL_draw cdL_draw ctL_draw ocL_same kVL_same dcL_same pmL_same cdL_same ctL_same ocL_vectors kVL_vectors dcL_vectors pmL_vectors cdL_vectors ctL_vectors ocL_net kVL_net dcL_net pmL_net cdL_net ctL_net ocL_times kVL_times dcL_times pmL_times cdL_times ctL_times ocL_row kVL_row dcL_row pmL_row cdL_row ctL_row ocL_behind kVL_behind dcL_behind pmL_behind cdL_behind ctL_behind ocL_as_net kVL_as_net dcL_as_net pmL_as_net cdL_as_net ctL_as_net ocL_as kVL_as dcL_as pmL_as cdL_as ctL_as ocL_refused kVL_refused dcL_refused pmL_refused cdL_refused ctL_refused oclaw kVlaw dclaw pmlaw cdlaw ctlaw : Value}
    {nmInvalidLetter qnInvalidLetter : Str} {NInvalidLetter : Addr} {bsInvalidLetter subInvalidLetter : List Value} {snInvalidLetter : List Str} {abInvalidLetter : Bool} {colInvalidLetter : Option Bool} {ddInvalidLetter : Option Addr} {m0InvalidLetter m1InvalidLetter m2InvalidLetter m3InvalidLetter m5InvalidLetter : Option Value}
    (aCNet : PySem.W.nsIn K mainGlobals "Net" = some (some (.ref CNet))) (pgNet : PySem.W.plainGet K CNet Str.empty = true) (hdNet : PySem.W.hasDictIn K CNet = true) (poNet : PySem.W.plainOver K CNet = true) (saNet : PySem.W.findIn K (.ref CNet) "__setattr__" = some (some (.builtin "object.__setattr__"))) (mkNet : PySem.W.makesIn K CNet = true) (kcNet : PySem.W.keepIn K (.ref CNet) = true)
    (nNet_prime : PySem.W.findIn K (.ref CNet) "prime" = some none)
    (nNet_embed : PySem.W.findIn K (.ref CNet) "embed" = some none)
    (nNet_shift : PySem.W.findIn K (.ref CNet) "shift" = some none)
    (nNet_layers : PySem.W.findIn K (.ref CNet) "layers" = some none)
    (nNet_out : PySem.W.findIn K (.ref CNet) "out" = some none)
    (nNet_end : PySem.W.findIn K (.ref CNet) "end" = some none)
    (aCJob : PySem.W.nsIn K mainGlobals "Job" = some (some (.ref CJob))) (pgJob : PySem.W.plainGet K CJob Str.empty = true) (hdJob : PySem.W.hasDictIn K CJob = true) (poJob : PySem.W.plainOver K CJob = true) (saJob : PySem.W.findIn K (.ref CJob) "__setattr__" = some (some (.builtin "object.__setattr__"))) (mkJob : PySem.W.makesIn K CJob = true) (kcJob : PySem.W.keepIn K (.ref CJob) = true)
    (nJob_ahead : PySem.W.findIn K (.ref CJob) "ahead" = some none)
    (nJob_vectors : PySem.W.findIn K (.ref CJob) "vectors" = some none)
    (nJob_pairs : PySem.W.findIn K (.ref CJob) "pairs" = some none)
    (aCInvalidLetter : PySem.W.nsIn K mainGlobals "InvalidLetter" = some (some (.ref CInvalidLetter))) (eiInvalidLetter : PySem.W.isClsIn K CInvalidLetter = true) (etInvalidLetter : PySem.W.typeIn K (.ref CInvalidLetter) = some (.type "type")) (ebInvalidLetter : PySem.W.subIn K (.ref CInvalidLetter) (.type "BaseException") = some true) (ehInvalidLetter : PySem.W.hasDictIn K CInvalidLetter = true)
    (aKPRIMES : PySem.W.nsIn K mainGlobals "PRIMES" = some (some (.ref KPRIMES))) {itKPRIMES : Array Value} {nKPRIMES : Nat} (lKPRIMES : K.lookup KPRIMES = some ⟨.type "tuple", odKPRIMES, .seq itKPRIMES nKPRIMES, slKPRIMES⟩) (vKPRIMES : itKPRIMES.size ≤ sizeLine ∧ Vals [.int 2, .int 3, .int 5, .int 7, .int 11, .int 13, .int 17, .int 19, .int 23, .int 29, .int 31, .int 37, .int 41, .int 43, .int 47, .int 53, .int 59, .int 61, .int 67, .int 71, .int 73, .int 79, .int 83, .int 89, .int 97] itKPRIMES.toList)
    (aInvalidLetter___init__ : PySem.W.findIn K (.ref CInvalidLetter) "__init__" = some (some (.ref fInvalidLetter___init__))) (iInvalidLetter___init__ : PySem.W.isFn K (.ref fInvalidLetter___init__) = true) (lInvalidLetter___init__ : K.lookup fInvalidLetter___init__ = some ⟨ocInvalidLetter___init__, odInvalidLetter___init__, .func (PySem.W.fnOf "__init__" "InvalidLetter.__init__" (defArgs s_InvalidLetter___init__) (defBody s_InvalidLetter___init__) (defScope s_InvalidLetter___init__) .none kVInvalidLetter___init__ dcInvalidLetter___init__ pmInvalidLetter___init__ anInvalidLetter___init__ cdInvalidLetter___init__ ctInvalidLetter___init__), slInvalidLetter___init__⟩) (cInvalidLetter___init__ : PySem.W.codeIn K cdInvalidLetter___init__ "InvalidLetter.__init__" = true) (kInvalidLetter___init__ : PySem.W.keepIn K (.ref fInvalidLetter___init__) = true)
    (ais_between : PySem.W.nsIn K mainGlobals "is_between" = some (some (.ref fis_between))) (lis_between : K.lookup fis_between = some ⟨ocis_between, odis_between, .func (PySem.W.fnOf "is_between" "is_between" (defArgs s_is_between) (defBody s_is_between) (defScope s_is_between) .none kVis_between dcis_between pmis_between anis_between cdis_between ctis_between), slis_between⟩) (cis_between : PySem.W.codeIn K cdis_between "is_between" = true) (kis_between : PySem.W.keepIn K (.ref fis_between) = true)
    (avector_of : PySem.W.nsIn K mainGlobals "vector_of" = some (some (.ref fvector_of))) (lvector_of : K.lookup fvector_of = some ⟨ocvector_of, odvector_of, .func (PySem.W.fnOf "vector_of" "vector_of" (defArgs s_vector_of) (defBody s_vector_of) (defScope s_vector_of) .none kVvector_of dcvector_of pmvector_of anvector_of cdvector_of ctvector_of), slvector_of⟩) (cvector_of : PySem.W.codeIn K cdvector_of "vector_of" = true) (kvector_of : PySem.W.keepIn K (.ref fvector_of) = true)
    (amatrix_of : PySem.W.nsIn K mainGlobals "matrix_of" = some (some (.ref fmatrix_of))) (lmatrix_of : K.lookup fmatrix_of = some ⟨ocmatrix_of, odmatrix_of, .func (PySem.W.fnOf "matrix_of" "matrix_of" (defArgs s_matrix_of) (defBody s_matrix_of) (defScope s_matrix_of) .none kVmatrix_of dcmatrix_of pmmatrix_of anmatrix_of cdmatrix_of ctmatrix_of), slmatrix_of⟩) (cmatrix_of : PySem.W.codeIn K cdmatrix_of "matrix_of" = true) (kmatrix_of : PySem.W.keepIn K (.ref fmatrix_of) = true)
    (aproduct_sum : PySem.W.nsIn K mainGlobals "product_sum" = some (some (.ref fproduct_sum))) (lproduct_sum : K.lookup fproduct_sum = some ⟨ocproduct_sum, odproduct_sum, .func (PySem.W.fnOf "product_sum" "product_sum" (defArgs s_product_sum) (defBody s_product_sum) (defScope s_product_sum) .none kVproduct_sum dcproduct_sum pmproduct_sum anproduct_sum cdproduct_sum ctproduct_sum), slproduct_sum⟩) (cproduct_sum : PySem.W.codeIn K cdproduct_sum "product_sum" = true) (kproduct_sum : PySem.W.keepIn K (.ref fproduct_sum) = true)
    (aNet___init__ : PySem.W.findIn K (.ref CNet) "__init__" = some (some (.ref fNet___init__))) (iNet___init__ : PySem.W.isFn K (.ref fNet___init__) = true) (lNet___init__ : K.lookup fNet___init__ = some ⟨ocNet___init__, odNet___init__, .func (PySem.W.fnOf "__init__" "Net.__init__" (defArgs s_Net___init__) (defBody s_Net___init__) (defScope s_Net___init__) .none kVNet___init__ dcNet___init__ pmNet___init__ anNet___init__ cdNet___init__ ctNet___init__), slNet___init__⟩) (cNet___init__ : PySem.W.codeIn K cdNet___init__ "Net.__init__" = true) (kNet___init__ : PySem.W.keepIn K (.ref fNet___init__) = true)
    (aNet_is_letter : PySem.W.findIn K (.ref CNet) "is_letter" = some (some (.ref fNet_is_letter))) (iNet_is_letter : PySem.W.isFn K (.ref fNet_is_letter) = true) (lNet_is_letter : K.lookup fNet_is_letter = some ⟨ocNet_is_letter, odNet_is_letter, .func (PySem.W.fnOf "is_letter" "Net.is_letter" (defArgs s_Net_is_letter) (defBody s_Net_is_letter) (defScope s_Net_is_letter) .none kVNet_is_letter dcNet_is_letter pmNet_is_letter anNet_is_letter cdNet_is_letter ctNet_is_letter), slNet_is_letter⟩) (cNet_is_letter : PySem.W.codeIn K cdNet_is_letter "Net.is_letter" = true) (kNet_is_letter : PySem.W.keepIn K (.ref fNet_is_letter) = true)
    (aNet_rest : PySem.W.findIn K (.ref CNet) "rest" = some (some (.ref fNet_rest))) (iNet_rest : PySem.W.isFn K (.ref fNet_rest) = true) (lNet_rest : K.lookup fNet_rest = some ⟨ocNet_rest, odNet_rest, .func (PySem.W.fnOf "rest" "Net.rest" (defArgs s_Net_rest) (defBody s_Net_rest) (defScope s_Net_rest) .none kVNet_rest dcNet_rest pmNet_rest anNet_rest cdNet_rest ctNet_rest), slNet_rest⟩) (cNet_rest : PySem.W.codeIn K cdNet_rest "Net.rest" = true) (kNet_rest : PySem.W.keepIn K (.ref fNet_rest) = true)
    (aNet_times : PySem.W.findIn K (.ref CNet) "times" = some (some (.ref fNet_times))) (iNet_times : PySem.W.isFn K (.ref fNet_times) = true) (lNet_times : K.lookup fNet_times = some ⟨ocNet_times, odNet_times, .func (PySem.W.fnOf "times" "Net.times" (defArgs s_Net_times) (defBody s_Net_times) (defScope s_Net_times) .none kVNet_times dcNet_times pmNet_times anNet_times cdNet_times ctNet_times), slNet_times⟩) (cNet_times : PySem.W.codeIn K cdNet_times "Net.times" = true) (kNet_times : PySem.W.keepIn K (.ref fNet_times) = true)
    (aNet_plus : PySem.W.findIn K (.ref CNet) "plus" = some (some (.ref fNet_plus))) (iNet_plus : PySem.W.isFn K (.ref fNet_plus) = true) (lNet_plus : K.lookup fNet_plus = some ⟨ocNet_plus, odNet_plus, .func (PySem.W.fnOf "plus" "Net.plus" (defArgs s_Net_plus) (defBody s_Net_plus) (defScope s_Net_plus) .none kVNet_plus dcNet_plus pmNet_plus anNet_plus cdNet_plus ctNet_plus), slNet_plus⟩) (cNet_plus : PySem.W.codeIn K cdNet_plus "Net.plus" = true) (kNet_plus : PySem.W.keepIn K (.ref fNet_plus) = true)
    (aNet_looked_at : PySem.W.findIn K (.ref CNet) "looked_at" = some (some (.ref fNet_looked_at))) (iNet_looked_at : PySem.W.isFn K (.ref fNet_looked_at) = true) (lNet_looked_at : K.lookup fNet_looked_at = some ⟨ocNet_looked_at, odNet_looked_at, .func (PySem.W.fnOf "looked_at" "Net.looked_at" (defArgs s_Net_looked_at) (defBody s_Net_looked_at) (defScope s_Net_looked_at) .none kVNet_looked_at dcNet_looked_at pmNet_looked_at anNet_looked_at cdNet_looked_at ctNet_looked_at), slNet_looked_at⟩) (cNet_looked_at : PySem.W.codeIn K cdNet_looked_at "Net.looked_at" = true) (kNet_looked_at : PySem.W.keepIn K (.ref fNet_looked_at) = true)
    (aNet_row : PySem.W.findIn K (.ref CNet) "row" = some (some (.ref fNet_row))) (iNet_row : PySem.W.isFn K (.ref fNet_row) = true) (lNet_row : K.lookup fNet_row = some ⟨ocNet_row, odNet_row, .func (PySem.W.fnOf "row" "Net.row" (defArgs s_Net_row) (defBody s_Net_row) (defScope s_Net_row) .none kVNet_row dcNet_row pmNet_row anNet_row cdNet_row ctNet_row), slNet_row⟩) (cNet_row : PySem.W.codeIn K cdNet_row "Net.row" = true) (kNet_row : PySem.W.keepIn K (.ref fNet_row) = true)
    (aJob___init__ : PySem.W.findIn K (.ref CJob) "__init__" = some (some (.ref fJob___init__))) (iJob___init__ : PySem.W.isFn K (.ref fJob___init__) = true) (lJob___init__ : K.lookup fJob___init__ = some ⟨ocJob___init__, odJob___init__, .func (PySem.W.fnOf "__init__" "Job.__init__" (defArgs s_Job___init__) (defBody s_Job___init__) (defScope s_Job___init__) .none kVJob___init__ dcJob___init__ pmJob___init__ anJob___init__ cdJob___init__ ctJob___init__), slJob___init__⟩) (cJob___init__ : PySem.W.codeIn K cdJob___init__ "Job.__init__" = true) (kJob___init__ : PySem.W.keepIn K (.ref fJob___init__) = true)
    (aJob_go_through : PySem.W.findIn K (.ref CJob) "go_through" = some (some (.ref fJob_go_through))) (iJob_go_through : PySem.W.isFn K (.ref fJob_go_through) = true) (lJob_go_through : K.lookup fJob_go_through = some ⟨ocJob_go_through, odJob_go_through, .func (PySem.W.fnOf "go_through" "Job.go_through" (defArgs s_Job_go_through) (defBody s_Job_go_through) (defScope s_Job_go_through) .none kVJob_go_through dcJob_go_through pmJob_go_through anJob_go_through cdJob_go_through ctJob_go_through), slJob_go_through⟩) (cJob_go_through : PySem.W.codeIn K cdJob_go_through "Job.go_through" = true) (kJob_go_through : PySem.W.keepIn K (.ref fJob_go_through) = true)
    (aJob_rows : PySem.W.findIn K (.ref CJob) "rows" = some (some (.ref fJob_rows))) (iJob_rows : PySem.W.isFn K (.ref fJob_rows) = true) (lJob_rows : K.lookup fJob_rows = some ⟨ocJob_rows, odJob_rows, .func (PySem.W.fnOf "rows" "Job.rows" (defArgs s_Job_rows) (defBody s_Job_rows) (defScope s_Job_rows) .none kVJob_rows dcJob_rows pmJob_rows anJob_rows cdJob_rows ctJob_rows), slJob_rows⟩) (cJob_rows : PySem.W.codeIn K cdJob_rows "Job.rows" = true) (kJob_rows : PySem.W.keepIn K (.ref fJob_rows) = true)
    (arows_in_batch : PySem.W.nsIn K mainGlobals "rows_in_batch" = some (some (.ref frows_in_batch))) (lrows_in_batch : K.lookup frows_in_batch = some ⟨ocrows_in_batch, odrows_in_batch, .func (PySem.W.fnOf "rows_in_batch" "rows_in_batch" (defArgs s_rows_in_batch) (defBody s_rows_in_batch) (defScope s_rows_in_batch) .none kVrows_in_batch dcrows_in_batch pmrows_in_batch anrows_in_batch cdrows_in_batch ctrows_in_batch), slrows_in_batch⟩) (crows_in_batch : PySem.W.codeIn K cdrows_in_batch "rows_in_batch" = true) (krows_in_batch : PySem.W.keepIn K (.ref frows_in_batch) = true)
    (aL_pool : PySem.W.nsIn K mainGlobals "_law_pool" = some (some (.ref fL_pool))) (lL_pool : K.lookup fL_pool = some ⟨ocL_pool, odL_pool, .func (PySem.W.fnOf "_law_pool" "_law_pool" (defArgs s_L_pool) (defBody s_L_pool) (defScope s_L_pool) .none kVL_pool dcL_pool pmL_pool anL_pool cdL_pool ctL_pool), slL_pool⟩) (cL_pool : PySem.W.codeIn K cdL_pool "_law_pool" = true) (kL_pool : PySem.W.keepIn K (.ref fL_pool) = true)
    (aL_draw : PySem.W.nsIn K mainGlobals "_law_draw" = some (some (.ref fL_draw))) (lL_draw : K.lookup fL_draw = some ⟨ocL_draw, odL_draw, .func (PySem.W.fnOf "_law_draw" "_law_draw" (defArgs s_L_draw) (defBody s_L_draw) (defScope s_L_draw) .none kVL_draw dcL_draw pmL_draw anL_draw cdL_draw ctL_draw), slL_draw⟩) (cL_draw : PySem.W.codeIn K cdL_draw "_law_draw" = true) (kL_draw : PySem.W.keepIn K (.ref fL_draw) = true)
    (aL_same : PySem.W.nsIn K mainGlobals "_law_same" = some (some (.ref fL_same))) (lL_same : K.lookup fL_same = some ⟨ocL_same, odL_same, .func (PySem.W.fnOf "_law_same" "_law_same" (defArgs s_L_same) (defBody s_L_same) (defScope s_L_same) .none kVL_same dcL_same pmL_same anL_same cdL_same ctL_same), slL_same⟩) (cL_same : PySem.W.codeIn K cdL_same "_law_same" = true) (kL_same : PySem.W.keepIn K (.ref fL_same) = true)
    (aL_vectors : PySem.W.nsIn K mainGlobals "_law_vectors" = some (some (.ref fL_vectors))) (lL_vectors : K.lookup fL_vectors = some ⟨ocL_vectors, odL_vectors, .func (PySem.W.fnOf "_law_vectors" "_law_vectors" (defArgs s_L_vectors) (defBody s_L_vectors) (defScope s_L_vectors) .none kVL_vectors dcL_vectors pmL_vectors anL_vectors cdL_vectors ctL_vectors), slL_vectors⟩) (cL_vectors : PySem.W.codeIn K cdL_vectors "_law_vectors" = true) (kL_vectors : PySem.W.keepIn K (.ref fL_vectors) = true)
    (aL_net : PySem.W.nsIn K mainGlobals "_law_net" = some (some (.ref fL_net))) (lL_net : K.lookup fL_net = some ⟨ocL_net, odL_net, .func (PySem.W.fnOf "_law_net" "_law_net" (defArgs s_L_net) (defBody s_L_net) (defScope s_L_net) .none kVL_net dcL_net pmL_net anL_net cdL_net ctL_net), slL_net⟩) (cL_net : PySem.W.codeIn K cdL_net "_law_net" = true) (kL_net : PySem.W.keepIn K (.ref fL_net) = true)
    (aL_times : PySem.W.nsIn K mainGlobals "_law_times" = some (some (.ref fL_times))) (lL_times : K.lookup fL_times = some ⟨ocL_times, odL_times, .func (PySem.W.fnOf "_law_times" "_law_times" (defArgs s_L_times) (defBody s_L_times) (defScope s_L_times) .none kVL_times dcL_times pmL_times anL_times cdL_times ctL_times), slL_times⟩) (cL_times : PySem.W.codeIn K cdL_times "_law_times" = true) (kL_times : PySem.W.keepIn K (.ref fL_times) = true)
    (aL_row : PySem.W.nsIn K mainGlobals "_law_row" = some (some (.ref fL_row))) (lL_row : K.lookup fL_row = some ⟨ocL_row, odL_row, .func (PySem.W.fnOf "_law_row" "_law_row" (defArgs s_L_row) (defBody s_L_row) (defScope s_L_row) .none kVL_row dcL_row pmL_row anL_row cdL_row ctL_row), slL_row⟩) (cL_row : PySem.W.codeIn K cdL_row "_law_row" = true) (kL_row : PySem.W.keepIn K (.ref fL_row) = true)
    (aL_behind : PySem.W.nsIn K mainGlobals "_law_behind" = some (some (.ref fL_behind))) (lL_behind : K.lookup fL_behind = some ⟨ocL_behind, odL_behind, .func (PySem.W.fnOf "_law_behind" "_law_behind" (defArgs s_L_behind) (defBody s_L_behind) (defScope s_L_behind) .none kVL_behind dcL_behind pmL_behind anL_behind cdL_behind ctL_behind), slL_behind⟩) (cL_behind : PySem.W.codeIn K cdL_behind "_law_behind" = true) (kL_behind : PySem.W.keepIn K (.ref fL_behind) = true)
    (aL_as_net : PySem.W.nsIn K mainGlobals "_law_as_net" = some (some (.ref fL_as_net))) (lL_as_net : K.lookup fL_as_net = some ⟨ocL_as_net, odL_as_net, .func (PySem.W.fnOf "_law_as_net" "_law_as_net" (defArgs s_L_as_net) (defBody s_L_as_net) (defScope s_L_as_net) .none kVL_as_net dcL_as_net pmL_as_net anL_as_net cdL_as_net ctL_as_net), slL_as_net⟩) (cL_as_net : PySem.W.codeIn K cdL_as_net "_law_as_net" = true) (kL_as_net : PySem.W.keepIn K (.ref fL_as_net) = true)
    (aL_as : PySem.W.nsIn K mainGlobals "_law_as" = some (some (.ref fL_as))) (lL_as : K.lookup fL_as = some ⟨ocL_as, odL_as, .func (PySem.W.fnOf "_law_as" "_law_as" (defArgs s_L_as) (defBody s_L_as) (defScope s_L_as) .none kVL_as dcL_as pmL_as anL_as cdL_as ctL_as), slL_as⟩) (cL_as : PySem.W.codeIn K cdL_as "_law_as" = true) (kL_as : PySem.W.keepIn K (.ref fL_as) = true)
    (aL_refused : PySem.W.nsIn K mainGlobals "_law_refused" = some (some (.ref fL_refused))) (lL_refused : K.lookup fL_refused = some ⟨ocL_refused, odL_refused, .func (PySem.W.fnOf "_law_refused" "_law_refused" (defArgs s_L_refused) (defBody s_L_refused) (defScope s_L_refused) .none kVL_refused dcL_refused pmL_refused anL_refused cdL_refused ctL_refused), slL_refused⟩) (cL_refused : PySem.W.codeIn K cdL_refused "_law_refused" = true) (kL_refused : PySem.W.keepIn K (.ref fL_refused) = true)
    (alaw : PySem.W.nsIn K mainGlobals "law" = some (some (.ref flaw))) (llaw : K.lookup flaw = some ⟨oclaw, odlaw, .func (PySem.W.fnOf "law" "law" (defArgs s_law) (defBody s_law) (defScope s_law) .none kVlaw dclaw pmlaw anlaw cdlaw ctlaw), sllaw⟩) (claw : PySem.W.codeIn K cdlaw "law" = true) (klaw : PySem.W.keepIn K (.ref flaw) = true)
    (xlInvalidLetter : K.lookup CInvalidLetter = some (PySem.excClassObj nmInvalidLetter qnInvalidLetter CInvalidLetter NInvalidLetter bsInvalidLetter [.ref CServeError, .type "ValueError", .type "Exception", .type "BaseException", .type "object"] true snInvalidLetter subInvalidLetter abInvalidLetter colInvalidLetter ddInvalidLetter m0InvalidLetter m1InvalidLetter m2InvalidLetter m3InvalidLetter m5InvalidLetter "ValueError.__new__")) (xaInvalidLetter : PySem.W.findIn K (.ref CInvalidLetter) "__setattr__" = some (some (.builtin "object.__setattr__"))) (xkInvalidLetter : PySem.W.keepIn K (.ref CInvalidLetter) = true) (xtInvalidLetter : PySem.W.typeIn K (.ref fInvalidLetter___init__) = some (.type "function")) (xnInvalidLetter : PySem.W.findIn K (.ref CInvalidLetter) "letter" = some none) (xgInvalidLetter : PySem.W.findIn K (.ref CInvalidLetter) "__getattribute__" = some (some (.builtin "BaseException.__getattribute__"))) (xhInvalidLetter : PySem.W.findIn K (.ref CInvalidLetter) "__getattr__" = some none) (xcInvalidLetter : PySem.W.findIn K (.ref CInvalidLetter) "__class__" = some (some (.builtin "object.__class__"))) (xsInvalidLetter : PySem.W.specialIn K (.builtin "object.__class__") "__get__" = some (some (.builtin "getset_descriptor.__get__"))) (xuInvalidLetter : PySem.W.takesIn K (.builtin "object.__class__") = some true) (xmInvalidLetter : PySem.W.mroIn K CInvalidLetter (.type "object") = some true) (xvInvalidLetter : PySem.W.subIn K (.ref CInvalidLetter) (.type "ValueError") = some true)
    (suInvalidLetter_InvalidLetter : PySem.W.subIn K (.ref CInvalidLetter) (.ref CInvalidLetter) = some true)
    (zabs : PySem.W.nsIn K mainGlobals "abs" = some none)
    (zbool : PySem.W.nsIn K mainGlobals "bool" = some none)
    (zenumerate : PySem.W.nsIn K mainGlobals "enumerate" = some none)
    (zint : PySem.W.nsIn K mainGlobals "int" = some none)
    (zisinstance : PySem.W.nsIn K mainGlobals "isinstance" = some none)
    (zlen : PySem.W.nsIn K mainGlobals "len" = some none)
    (zlist : PySem.W.nsIn K mainGlobals "list" = some none)
    (zmin : PySem.W.nsIn K mainGlobals "min" = some none)
    (zrange : PySem.W.nsIn K mainGlobals "range" = some none)
    (zstr : PySem.W.nsIn K mainGlobals "str" = some none)
    (zsum : PySem.W.nsIn K mainGlobals "sum" = some none)
    (ztuple : PySem.W.nsIn K mainGlobals "tuple" = some none)
    (zzip : PySem.W.nsIn K mainGlobals "zip" = some none)
    : ∃ fd : FuncData, (∀ (s : Shared) (v : Value), BindsTo s fd ⟨[v], []⟩ [("_law_script", v)]) ∧ ∀ base : Heap, K.In base → base.Ns mainGlobals mg → FnG l.prog w K mg base CX0 9 fa fd ["_law_script"] (sp_law K) := by
  have e := hfa.symm.trans (PySem.W.mg_of X G alaw)
  cases e
  have FInvalidLetter___init__ := fun_mk (st := s_InvalidLetter___init__) lInvalidLetter___init__ cInvalidLetter___init__ kInvalidLetter___init__
  have bInvalidLetter___init__ := FInvalidLetter___init__.binds (ps := ["self", "letter"]) fun _ _ _ _ _ _ us hl => match us, hl with | [_, _], _ => rfl
  have Fis_between := fun_mk (st := s_is_between) lis_between cis_between kis_between
  have bis_between := Fis_between.binds (ps := ["value", "least", "most"]) fun _ _ _ _ _ _ us hl => match us, hl with | [_, _, _], _ => rfl
  have Fvector_of := fun_mk (st := s_vector_of) lvector_of cvector_of kvector_of
  have bvector_of := Fvector_of.binds (ps := ["numbers"]) fun _ _ _ _ _ _ us hl => match us, hl with | [_], _ => rfl
  have Fmatrix_of := fun_mk (st := s_matrix_of) lmatrix_of cmatrix_of kmatrix_of
  have bmatrix_of := Fmatrix_of.binds (ps := ["rows"]) fun _ _ _ _ _ _ us hl => match us, hl with | [_], _ => rfl
  have Fproduct_sum := fun_mk (st := s_product_sum) lproduct_sum cproduct_sum kproduct_sum
  have bproduct_sum := Fproduct_sum.binds (ps := ["one", "two"]) fun _ _ _ _ _ _ us hl => match us, hl with | [_, _], _ => rfl
  have FNet___init__ := fun_mk (st := s_Net___init__) lNet___init__ cNet___init__ kNet___init__
  have bNet___init__ := FNet___init__.binds (ps := ["self", "prime", "embed", "shift", "layers", "out", "end"]) fun _ _ _ _ _ _ us hl => match us, hl with | [_, _, _, _, _, _, _], _ => rfl
  have FNet_is_letter := fun_mk (st := s_Net_is_letter) lNet_is_letter cNet_is_letter kNet_is_letter
  have bNet_is_letter := FNet_is_letter.binds (ps := ["self", "value"]) fun _ _ _ _ _ _ us hl => match us, hl with | [_, _], _ => rfl
  have FNet_rest := fun_mk (st := s_Net_rest) lNet_rest cNet_rest kNet_rest
  have bNet_rest := FNet_rest.binds (ps := ["self", "number"]) fun _ _ _ _ _ _ us hl => match us, hl with | [_, _], _ => rfl
  have FNet_times := fun_mk (st := s_Net_times) lNet_times cNet_times kNet_times
  have bNet_times := FNet_times.binds (ps := ["self", "matrix", "vector"]) fun _ _ _ _ _ _ us hl => match us, hl with | [_, _, _], _ => rfl
  have FNet_plus := fun_mk (st := s_Net_plus) lNet_plus cNet_plus kNet_plus
  have bNet_plus := FNet_plus.binds (ps := ["self", "one", "two"]) fun _ _ _ _ _ _ us hl => match us, hl with | [_, _, _], _ => rfl
  have FNet_looked_at := fun_mk (st := s_Net_looked_at) lNet_looked_at cNet_looked_at kNet_looked_at
  have bNet_looked_at := FNet_looked_at.binds (ps := ["self", "query", "pairs"]) fun _ _ _ _ _ _ us hl => match us, hl with | [_, _, _], _ => rfl
  have FNet_row := fun_mk (st := s_Net_row) lNet_row cNet_row kNet_row
  have bNet_row := FNet_row.binds (ps := ["self", "rows", "letter"]) fun _ _ _ _ _ _ us hl => match us, hl with | [_, _, _], _ => rfl
  have FJob___init__ := fun_mk (st := s_Job___init__) lJob___init__ cJob___init__ kJob___init__
  have bJob___init__ := FJob___init__.binds (ps := ["self", "net", "rows", "letters"]) fun _ _ _ _ _ _ us hl => match us, hl with | [_, _, _, _], _ => rfl
  have FJob_go_through := fun_mk (st := s_Job_go_through) lJob_go_through cJob_go_through kJob_go_through
  have bJob_go_through := FJob_go_through.binds (ps := ["self", "net", "number"]) fun _ _ _ _ _ _ us hl => match us, hl with | [_, _, _], _ => rfl
  have FJob_rows := fun_mk (st := s_Job_rows) lJob_rows cJob_rows kJob_rows
  have bJob_rows := FJob_rows.binds (ps := ["self", "net"]) fun _ _ _ _ _ _ us hl => match us, hl with | [_, _], _ => rfl
  have Frows_in_batch := fun_mk (st := s_rows_in_batch) lrows_in_batch crows_in_batch krows_in_batch
  have brows_in_batch := Frows_in_batch.binds (ps := ["net", "jobs"]) fun _ _ _ _ _ _ us hl => match us, hl with | [_, _], _ => rfl
  have FL_pool := fun_mk (st := s_L_pool) lL_pool cL_pool kL_pool
  have bL_pool := FL_pool.binds (ps := ["_law_script", "_law_many"]) fun _ _ _ _ _ _ us hl => match us, hl with | [_, _], _ => rfl
  have FL_draw := fun_mk (st := s_L_draw) lL_draw cL_draw kL_draw
  have bL_draw := FL_draw.binds (ps := ["_law_pool_here", "_law_many"]) fun _ _ _ _ _ _ us hl => match us, hl with | [_, _], _ => rfl
  have FL_same := fun_mk (st := s_L_same) lL_same cL_same kL_same
  have bL_same := FL_same.binds (ps := ["_law_told", "_law_due"]) fun _ _ _ _ _ _ us hl => match us, hl with | [_, _], _ => rfl
  have FL_vectors := fun_mk (st := s_L_vectors) lL_vectors cL_vectors kL_vectors
  have bL_vectors := FL_vectors.binds (ps := ["_law_pool_here", "_law_prime", "_law_many", "_law_width"]) fun _ _ _ _ _ _ us hl => match us, hl with | [_, _, _, _], _ => rfl
  have FL_net := fun_mk (st := s_L_net) lL_net cL_net kL_net
  have bL_net := FL_net.binds (ps := ["_law_pool_here"]) fun _ _ _ _ _ _ us hl => match us, hl with | [_], _ => rfl
  have FL_times := fun_mk (st := s_L_times) lL_times cL_times kL_times
  have bL_times := FL_times.binds (ps := ["_law_matrix", "_law_x", "_law_prime"]) fun _ _ _ _ _ _ us hl => match us, hl with | [_, _, _], _ => rfl
  have FL_row := fun_mk (st := s_L_row) lL_row cL_row kL_row
  have bL_row := FL_row.binds (ps := ["_law_net_here", "_law_rows", "_law_letter"]) fun _ _ _ _ _ _ us hl => match us, hl with | [_, _, _], _ => rfl
  have FL_behind := fun_mk (st := s_L_behind) lL_behind cL_behind kL_behind
  have bL_behind := FL_behind.binds (ps := ["_law_net_here", "_law_known", "_law_letters"]) fun _ _ _ _ _ _ us hl => match us, hl with | [_, _, _], _ => rfl
  have FL_as_net := fun_mk (st := s_L_as_net) lL_as_net cL_as_net kL_as_net
  have bL_as_net := FL_as_net.binds (ps := ["_law_net_here"]) fun _ _ _ _ _ _ us hl => match us, hl with | [_], _ => rfl
  have FL_as := fun_mk (st := s_L_as) lL_as cL_as kL_as
  have bL_as := FL_as.binds (ps := ["_law_pool_here", "_law_row_here"]) fun _ _ _ _ _ _ us hl => match us, hl with | [_, _], _ => rfl
  have FL_refused := fun_mk (st := s_L_refused) lL_refused cL_refused kL_refused
  have bL_refused := FL_refused.binds (ps := ["_law_pool_here", "_law_helper", "_law_net_here", "_law_jobs"]) fun _ _ _ _ _ _ us hl => match us, hl with | [_, _, _, _], _ => rfl
  have Flaw := fun_mk (st := s_law) llaw claw klaw
  have blaw := Flaw.binds (ps := ["_law_script"]) fun _ _ _ _ _ _ us hl => match us, hl with | [_], _ => rfl
  let T : Txt K mg := { c_Net := _, C_Net := ⟨pgNet, hdNet, poNet, saNet⟩, gc_Net := PySem.W.mg_of X G aCNet, n_Net_prime := nNet_prime, n_Net_embed := nNet_embed, n_Net_shift := nNet_shift, n_Net_layers := nNet_layers, n_Net_out := nNet_out, n_Net_end := nNet_end, c_Job := _, C_Job := ⟨pgJob, hdJob, poJob, saJob⟩, gc_Job := PySem.W.mg_of X G aCJob, n_Job_ahead := nJob_ahead, n_Job_vectors := nJob_vectors, n_Job_pairs := nJob_pairs, c_InvalidLetter := _, gc_InvalidLetter := PySem.W.mg_of X G aCInvalidLetter, er_InvalidLetter := ⟨eiInvalidLetter, etInvalidLetter, ebInvalidLetter, ehInvalidLetter⟩, k_PRIMES := _, gk_PRIMES := PySem.W.mg_of X G aKPRIMES, tk_PRIMES := fun _ => .inr ⟨_, itKPRIMES, nKPRIMES, lKPRIMES, rfl, rfl, vKPRIMES.1, vKPRIMES.2⟩, a_InvalidLetter___init__ := _, d_InvalidLetter___init__ := _, F_InvalidLetter___init__ := FInvalidLetter___init__, b_InvalidLetter___init__ := bInvalidLetter___init__, a_is_between := _, d_is_between := _, F_is_between := Fis_between, b_is_between := bis_between, g_is_between := PySem.W.mg_of X G ais_between, a_vector_of := _, d_vector_of := _, F_vector_of := Fvector_of, b_vector_of := bvector_of, g_vector_of := PySem.W.mg_of X G avector_of, a_matrix_of := _, d_matrix_of := _, F_matrix_of := Fmatrix_of, b_matrix_of := bmatrix_of, g_matrix_of := PySem.W.mg_of X G amatrix_of, a_product_sum := _, d_product_sum := _, F_product_sum := Fproduct_sum, b_product_sum := bproduct_sum, g_product_sum := PySem.W.mg_of X G aproduct_sum, a_Net___init__ := _, d_Net___init__ := _, F_Net___init__ := FNet___init__, b_Net___init__ := bNet___init__, M_Net := ⟨mkNet, aNet___init__, iNet___init__, kcNet⟩, a_Net_is_letter := _, d_Net_is_letter := _, F_Net_is_letter := FNet_is_letter, b_Net_is_letter := bNet_is_letter, m_Net_is_letter := ⟨aNet_is_letter, iNet_is_letter, kNet_is_letter⟩, a_Net_rest := _, d_Net_rest := _, F_Net_rest := FNet_rest, b_Net_rest := bNet_rest, m_Net_rest := ⟨aNet_rest, iNet_rest, kNet_rest⟩, a_Net_times := _, d_Net_times := _, F_Net_times := FNet_times, b_Net_times := bNet_times, m_Net_times := ⟨aNet_times, iNet_times, kNet_times⟩, a_Net_plus := _, d_Net_plus := _, F_Net_plus := FNet_plus, b_Net_plus := bNet_plus, m_Net_plus := ⟨aNet_plus, iNet_plus, kNet_plus⟩, a_Net_looked_at := _, d_Net_looked_at := _, F_Net_looked_at := FNet_looked_at, b_Net_looked_at := bNet_looked_at, m_Net_looked_at := ⟨aNet_looked_at, iNet_looked_at, kNet_looked_at⟩, a_Net_row := _, d_Net_row := _, F_Net_row := FNet_row, b_Net_row := bNet_row, m_Net_row := ⟨aNet_row, iNet_row, kNet_row⟩, a_Job___init__ := _, d_Job___init__ := _, F_Job___init__ := FJob___init__, b_Job___init__ := bJob___init__, M_Job := ⟨mkJob, aJob___init__, iJob___init__, kcJob⟩, a_Job_go_through := _, d_Job_go_through := _, F_Job_go_through := FJob_go_through, b_Job_go_through := bJob_go_through, m_Job_go_through := ⟨aJob_go_through, iJob_go_through, kJob_go_through⟩, a_Job_rows := _, d_Job_rows := _, F_Job_rows := FJob_rows, b_Job_rows := bJob_rows, m_Job_rows := ⟨aJob_rows, iJob_rows, kJob_rows⟩, a_rows_in_batch := _, d_rows_in_batch := _, F_rows_in_batch := Frows_in_batch, b_rows_in_batch := brows_in_batch, g_rows_in_batch := PySem.W.mg_of X G arows_in_batch, a_L_pool := _, d_L_pool := _, F_L_pool := FL_pool, b_L_pool := bL_pool, g_L_pool := PySem.W.mg_of X G aL_pool, a_L_draw := _, d_L_draw := _, F_L_draw := FL_draw, b_L_draw := bL_draw, g_L_draw := PySem.W.mg_of X G aL_draw, a_L_same := _, d_L_same := _, F_L_same := FL_same, b_L_same := bL_same, g_L_same := PySem.W.mg_of X G aL_same, a_L_vectors := _, d_L_vectors := _, F_L_vectors := FL_vectors, b_L_vectors := bL_vectors, g_L_vectors := PySem.W.mg_of X G aL_vectors, a_L_net := _, d_L_net := _, F_L_net := FL_net, b_L_net := bL_net, g_L_net := PySem.W.mg_of X G aL_net, a_L_times := _, d_L_times := _, F_L_times := FL_times, b_L_times := bL_times, g_L_times := PySem.W.mg_of X G aL_times, a_L_row := _, d_L_row := _, F_L_row := FL_row, b_L_row := bL_row, g_L_row := PySem.W.mg_of X G aL_row, a_L_behind := _, d_L_behind := _, F_L_behind := FL_behind, b_L_behind := bL_behind, g_L_behind := PySem.W.mg_of X G aL_behind, a_L_as_net := _, d_L_as_net := _, F_L_as_net := FL_as_net, b_L_as_net := bL_as_net, g_L_as_net := PySem.W.mg_of X G aL_as_net, a_L_as := _, d_L_as := _, F_L_as := FL_as, b_L_as := bL_as, g_L_as := PySem.W.mg_of X G aL_as, a_L_refused := _, d_L_refused := _, F_L_refused := FL_refused, b_L_refused := bL_refused, g_L_refused := PySem.W.mg_of X G aL_refused, a_law := _, d_law := _, F_law := Flaw, b_law := blaw, g_law := PySem.W.mg_of X G alaw, ox_InvalidLetter := ⟨⟨_, _, _, _, _, _, _, _, _, _, _, _, _, _, _, xlInvalidLetter, rfl⟩, xaInvalidLetter, ebInvalidLetter, etInvalidLetter, xkInvalidLetter⟩, ic_InvalidLetter := aInvalidLetter___init__, ti_InvalidLetter := xtInvalidLetter, nf_InvalidLetter := xnInvalidLetter, xf_InvalidLetter := ⟨xgInvalidLetter, xhInvalidLetter, ebInvalidLetter, ehInvalidLetter⟩, ec_InvalidLetter := ⟨xgInvalidLetter, xhInvalidLetter, ebInvalidLetter, ehInvalidLetter, xcInvalidLetter, xsInvalidLetter, xuInvalidLetter, xmInvalidLetter⟩, sv_InvalidLetter := xvInvalidLetter, sub_InvalidLetter_InvalidLetter := suInvalidLetter_InvalidLetter, z_abs := PySem.W.mg_none_of X G zabs, z_bool := PySem.W.mg_none_of X G zbool, z_enumerate := PySem.W.mg_none_of X G zenumerate, z_int := PySem.W.mg_none_of X G zint, z_isinstance := PySem.W.mg_none_of X G zisinstance, z_len := PySem.W.mg_none_of X G zlen, z_list := PySem.W.mg_none_of X G zlist, z_min := PySem.W.mg_none_of X G zmin, z_range := PySem.W.mg_none_of X G zrange, z_str := PySem.W.mg_none_of X G zstr, z_sum := PySem.W.mg_none_of X G zsum, z_tuple := PySem.W.mg_none_of X G ztuple, z_zip := PySem.W.mg_none_of X G zzip }
  exact ⟨_, fun s v => .of_eq rfl, fun base _ _ => ok_law (P := l.prog) (w := w) (base := base) T⟩
theorem walk {l : PySem.W.OpenLaw} {q : Program} {loose : List Str} {XP : (Str → Option Value) → Heap → Prop} {YP : World → Heap → Prop} {d : DefRec} {K : Params → PySem.W.Frag} (hn : l.most = some 63) (hdf : d.params.defaults = [])
    (hY : ∀ (w : World) (h : Heap), YP w h → (K w.params).In h)
    (F : ∀ (w : World) (mg : Str → Option Value) (fa : Addr) (h : Heap), (K w.params).In h → h.Ns mainGlobals mg → mg d.name = some (.ref fa) →
      ∃ fd : FuncData, (∀ (s : Shared) (u : Value), BindsTo s fd ⟨[u], []⟩ [("_law_script", u)]) ∧ ∀ base : Heap, (K w.params).In base → base.Ns mainGlobals mg → FnG l.prog w (K w.params) mg base CX0 9 fa fd ["_law_script"] (sp_law (K w.params))) :
    PySem.W.WalkO q loose XP YP l.row.toRowW d [] (fun f vs => PySem.call f vs) :=
  L2.walk_ofG (n := 63) (k := 9) (x := "_law_script") (CX := fun _ => CX0) (sp := fun w => sp_law (K w.params)) hn (by decide) hdf ⟨rfl, by decide, by decide⟩ hY F (fun _ _ a ns hl _ hS => ⟨a, ns, rfl, hS, hl, fun _ => rfl⟩) fun _ _ _ _ _ z => z
end My

open PySem PySem.W PyProof.Rows
set_option maxRecDepth 100000 in
set_option maxHeartbeats 0 in
theorem PySem.Challenge.cw_servedalone_k69_rows_in_a_batch_holds : PySem.Challenge.rw_servedalone_k69_rows_in_a_batch.Holds := by
  w_on; o_law; k_head; (case hw => w_witness2)
  k_fill
  refine My.walk (l := PySem.Challenge.rw_servedalone_k69_rows_in_a_batch) rfl rfl (fun w h Y => PySem.W.kIn_of Y) ?F
  case F =>
    intro w mg fa h KX G hmg
    refine' My.all_mk KX G hmg ?aCNet ?pgNet ?hdNet ?poNet ?saNet ?mkNet ?kcNet ?nNet_prime ?nNet_embed ?nNet_shift ?nNet_layers ?nNet_out ?nNet_end ?aCJob ?pgJob ?hdJob ?poJob ?saJob ?mkJob ?kcJob ?nJob_ahead ?nJob_vectors ?nJob_pairs ?aCInvalidLetter ?eiInvalidLetter ?etInvalidLetter ?ebInvalidLetter ?ehInvalidLetter ?aKPRIMES ?lKPRIMES ?vKPRIMES ?aInvalidLetter___init__ ?iInvalidLetter___init__ ?lInvalidLetter___init__ ?cInvalidLetter___init__ ?kInvalidLetter___init__ ?ais_between ?lis_between ?cis_between ?kis_between ?avector_of ?lvector_of ?cvector_of ?kvector_of ?amatrix_of ?lmatrix_of ?cmatrix_of ?kmatrix_of ?aproduct_sum ?lproduct_sum ?cproduct_sum ?kproduct_sum ?aNet___init__ ?iNet___init__ ?lNet___init__ ?cNet___init__ ?kNet___init__ ?aNet_is_letter ?iNet_is_letter ?lNet_is_letter ?cNet_is_letter ?kNet_is_letter ?aNet_rest ?iNet_rest ?lNet_rest ?cNet_rest ?kNet_rest ?aNet_times ?iNet_times ?lNet_times ?cNet_times ?kNet_times ?aNet_plus ?iNet_plus ?lNet_plus ?cNet_plus ?kNet_plus ?aNet_looked_at ?iNet_looked_at ?lNet_looked_at ?cNet_looked_at ?kNet_looked_at ?aNet_row ?iNet_row ?lNet_row ?cNet_row ?kNet_row ?aJob___init__ ?iJob___init__ ?lJob___init__ ?cJob___init__ ?kJob___init__ ?aJob_go_through ?iJob_go_through ?lJob_go_through ?cJob_go_through ?kJob_go_through ?aJob_rows ?iJob_rows ?lJob_rows ?cJob_rows ?kJob_rows ?arows_in_batch ?lrows_in_batch ?crows_in_batch ?krows_in_batch ?aL_pool ?lL_pool ?cL_pool ?kL_pool ?aL_draw ?lL_draw ?cL_draw ?kL_draw ?aL_same ?lL_same ?cL_same ?kL_same ?aL_vectors ?lL_vectors ?cL_vectors ?kL_vectors ?aL_net ?lL_net ?cL_net ?kL_net ?aL_times ?lL_times ?cL_times ?kL_times ?aL_row ?lL_row ?cL_row ?kL_row ?aL_behind ?lL_behind ?cL_behind ?kL_behind ?aL_as_net ?lL_as_net ?cL_as_net ?kL_as_net ?aL_as ?lL_as ?cL_as ?kL_as ?aL_refused ?lL_refused ?cL_refused ?kL_refused ?alaw ?llaw ?claw ?klaw ?xlInvalidLetter ?xaInvalidLetter ?xkInvalidLetter ?xtInvalidLetter ?xnInvalidLetter ?xgInvalidLetter ?xhInvalidLetter ?xcInvalidLetter ?xsInvalidLetter ?xuInvalidLetter ?xmInvalidLetter ?xvInvalidLetter ?suInvalidLetter_InvalidLetter ?zabs ?zbool ?zenumerate ?zint ?zisinstance ?zlen ?zlist ?zmin ?zrange ?zstr ?zsum ?ztuple ?zzip
    (case aCNet => k_is)
    (case pgNet => k_is)
    (case hdNet => k_is)
    (case poNet => k_is)
    (case saNet => k_is)
    (case mkNet => k_is)
    (case kcNet => k_is)
    (case nNet_prime => k_is)
    (case nNet_embed => k_is)
    (case nNet_shift => k_is)
    (case nNet_layers => k_is)
    (case nNet_out => k_is)
    (case nNet_end => k_is)
    (case aCJob => k_is)
    (case pgJob => k_is)
    (case hdJob => k_is)
    (case poJob => k_is)
    (case saJob => k_is)
    (case mkJob => k_is)
    (case kcJob => k_is)
    (case nJob_ahead => k_is)
    (case nJob_vectors => k_is)
    (case nJob_pairs => k_is)
    (case aCInvalidLetter => k_is)
    (case eiInvalidLetter => k_is)
    (case etInvalidLetter => k_is)
    (case ebInvalidLetter => k_is)
    (case ehInvalidLetter => k_is)
    (case aKPRIMES => k_is)
    (case lKPRIMES => k_is)
    (case vKPRIMES => refine ⟨by decide, ?_⟩; repeat (first | exact Paired.nil | refine Paired.cons ⟨_, rfl⟩ ?_))
    (case aInvalidLetter___init__ => k_is)
    (case iInvalidLetter___init__ => k_is)
    (case lInvalidLetter___init__ => k_is)
    (case cInvalidLetter___init__ => k_is)
    (case kInvalidLetter___init__ => k_is)
    (case ais_between => k_is)
    (case lis_between => k_is)
    (case cis_between => k_is)
    (case kis_between => k_is)
    (case avector_of => k_is)
    (case lvector_of => k_is)
    (case cvector_of => k_is)
    (case kvector_of => k_is)
    (case amatrix_of => k_is)
    (case lmatrix_of => k_is)
    (case cmatrix_of => k_is)
    (case kmatrix_of => k_is)
    (case aproduct_sum => k_is)
    (case lproduct_sum => k_is)
    (case cproduct_sum => k_is)
    (case kproduct_sum => k_is)
    (case aNet___init__ => k_is)
    (case iNet___init__ => k_is)
    (case lNet___init__ => k_is)
    (case cNet___init__ => k_is)
    (case kNet___init__ => k_is)
    (case aNet_is_letter => k_is)
    (case iNet_is_letter => k_is)
    (case lNet_is_letter => k_is)
    (case cNet_is_letter => k_is)
    (case kNet_is_letter => k_is)
    (case aNet_rest => k_is)
    (case iNet_rest => k_is)
    (case lNet_rest => k_is)
    (case cNet_rest => k_is)
    (case kNet_rest => k_is)
    (case aNet_times => k_is)
    (case iNet_times => k_is)
    (case lNet_times => k_is)
    (case cNet_times => k_is)
    (case kNet_times => k_is)
    (case aNet_plus => k_is)
    (case iNet_plus => k_is)
    (case lNet_plus => k_is)
    (case cNet_plus => k_is)
    (case kNet_plus => k_is)
    (case aNet_looked_at => k_is)
    (case iNet_looked_at => k_is)
    (case lNet_looked_at => k_is)
    (case cNet_looked_at => k_is)
    (case kNet_looked_at => k_is)
    (case aNet_row => k_is)
    (case iNet_row => k_is)
    (case lNet_row => k_is)
    (case cNet_row => k_is)
    (case kNet_row => k_is)
    (case aJob___init__ => k_is)
    (case iJob___init__ => k_is)
    (case lJob___init__ => k_is)
    (case cJob___init__ => k_is)
    (case kJob___init__ => k_is)
    (case aJob_go_through => k_is)
    (case iJob_go_through => k_is)
    (case lJob_go_through => k_is)
    (case cJob_go_through => k_is)
    (case kJob_go_through => k_is)
    (case aJob_rows => k_is)
    (case iJob_rows => k_is)
    (case lJob_rows => k_is)
    (case cJob_rows => k_is)
    (case kJob_rows => k_is)
    (case arows_in_batch => k_is)
    (case lrows_in_batch => k_is)
    (case crows_in_batch => k_is)
    (case krows_in_batch => k_is)
    (case aL_pool => k_is)
    (case lL_pool => k_is)
    (case cL_pool => k_is)
    (case kL_pool => k_is)
    (case aL_draw => k_is)
    (case lL_draw => k_is)
    (case cL_draw => k_is)
    (case kL_draw => k_is)
    (case aL_same => k_is)
    (case lL_same => k_is)
    (case cL_same => k_is)
    (case kL_same => k_is)
    (case aL_vectors => k_is)
    (case lL_vectors => k_is)
    (case cL_vectors => k_is)
    (case kL_vectors => k_is)
    (case aL_net => k_is)
    (case lL_net => k_is)
    (case cL_net => k_is)
    (case kL_net => k_is)
    (case aL_times => k_is)
    (case lL_times => k_is)
    (case cL_times => k_is)
    (case kL_times => k_is)
    (case aL_row => k_is)
    (case lL_row => k_is)
    (case cL_row => k_is)
    (case kL_row => k_is)
    (case aL_behind => k_is)
    (case lL_behind => k_is)
    (case cL_behind => k_is)
    (case kL_behind => k_is)
    (case aL_as_net => k_is)
    (case lL_as_net => k_is)
    (case cL_as_net => k_is)
    (case kL_as_net => k_is)
    (case aL_as => k_is)
    (case lL_as => k_is)
    (case cL_as => k_is)
    (case kL_as => k_is)
    (case aL_refused => k_is)
    (case lL_refused => k_is)
    (case cL_refused => k_is)
    (case kL_refused => k_is)
    (case alaw => k_is)
    (case llaw => k_is)
    (case claw => k_is)
    (case klaw => k_is)
    (case xlInvalidLetter => k_is)
    (case xaInvalidLetter => k_is)
    (case xkInvalidLetter => k_is)
    (case xtInvalidLetter => k_is)
    (case xnInvalidLetter => k_is)
    (case xgInvalidLetter => k_is)
    (case xhInvalidLetter => k_is)
    (case xcInvalidLetter => k_is)
    (case xsInvalidLetter => k_is)
    (case xuInvalidLetter => k_is)
    (case xmInvalidLetter => k_is)
    (case xvInvalidLetter => k_is)
    (case suInvalidLetter_InvalidLetter => k_is)
    (case zabs => k_is)
    (case zbool => k_is)
    (case zenumerate => k_is)
    (case zint => k_is)
    (case zisinstance => k_is)
    (case zlen => k_is)
    (case zlist => k_is)
    (case zmin => k_is)
    (case zrange => k_is)
    (case zstr => k_is)
    (case zsum => k_is)
    (case ztuple => k_is)
    (case zzip => k_is)
#print axioms PySem.Challenge.cw_servedalone_k69_rows_in_a_batch_holds
