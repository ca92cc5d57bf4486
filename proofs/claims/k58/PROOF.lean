import PyProof.Rows.All
import Wide.All
import OpenK.AllK
import Wide.FinOn
import HandS.ForMost
import HandS.Walk
import HandS.IsInst
import HandS.Evl
import HandS.Property
import HandS.WideBits
import HandS.Conv
import HandS.TupAny
import HandS.MakeKwOnly
import HandS.ExcInit
import HandS.ExcField
import HandS.ExcIs
import HandS.ExcOwn
import HandS.WordsExc
import HandS.RaiseMore
import PyProof.InstNe
import PyProof.SeqI3
import PyProof.MinMaxWalk
import KE.KTupSum
import KE.GoesMore
import KE.GoesEnum
import KE.GoesZip
import PySem.Challenge.RW_servedalone_k58_shares
set_option Elab.async false
set_option linter.all false
set_option maxRecDepth 100000
set_option maxHeartbeats 4000000
namespace L2
open PySem PySem.Spec PyProof.Rows

/-! ### own rules: either of two readings; sums, enumerate and walks of lists or tuples -/
theorem PI.or {X : Cx} {tg iter : Expr} {w1 w2 : TI} (h1 : PI X tg iter w1) (h2 : PI X tg iter w2) : PI X tg iter (fun σ H R => w1 σ H R ∨ w2 σ H R) := by
  refine ⟨fun pins s σ H R I h => ?_⟩
  rcases h with h | h
  · exact h1.run pins s σ H R I h
  · exact h2.run pins s σ H R I h

section
variable {X : Cx}
def rAddG (K : PySem.W.Frag) : R2 := fun x y H Q => (rI0 fun i j => .int (i + j)) x y H Q ∨ rCatT K x y H Q ∨ rCat x y H Q
theorem op_addG : OpR X (binaryOp .Add) (rAddG X.K) := op_add.or (op_catT.or op_cat)
def rEqG (K : PySem.W.Frag) : R2 := fun x y H Q => rEq x y H Q ∨ rEqD K x y H Q
def rNeG (K : PySem.W.Frag) : R2 := fun x y H Q => rNe x y H Q ∨ rNeD K x y H Q
theorem op_eqG (hu : X.A.units + 64 < cLine) : OpR X (compareOp .Eq) (rEqG X.K) := op_eq.or (op_eqD hu)
theorem op_neG (hu : X.A.units + 64 < cLine) : OpR X (compareOp .NotEq) (rNeG X.K) := op_ne.or (op_neD hu)
def rSlG (K : PySem.W.Frag) : V → Option Int → Option Int → Hp → VK → Prop := fun x lo hi H Q => rSlL K x lo hi H Q ∨ rSlA K x lo hi H Q
theorem sl_seqG : SlR X (rSlG X.K) := sl_list.or sl_tupA
def rSumS (K : PySem.W.Frag) : List V → Hp → VK → Prop := fun vs H Q => ∃ (a : Addr) (ns : List Int), vs = [V.ref a] ∧ (SqL K H a (ns.map V.int) ∨ SqT K H a (ns.map V.int)) ∧ Q (.int ns.sum) H
theorem cr_sumS (hc : X.calm = true) : CallR X (.builtin "sum") (rSumS X.K) := by
  intro pins s σ H vs us Q I r h
  obtain ⟨a, ns, rfl, hs, q⟩ := h
  rw [Vals.ref1 r]
  rcases hs with hs | hs
  · obtain ⟨its, rv, hl, _⟩ := I.list hs
    exact sum_raw (I.ok.hd hc) hl.isList rv.ints fun h' tk t' hk => ⟨.int _, H, I.kept hk, ⟨_, rfl⟩, q⟩
  · obtain ⟨its, rv, ht, _⟩ := I.tuple hs
    have hi := rv.ints
    obtain ⟨xs, e⟩ := hi.allInts.items
    have hn : numsOf (intItems xs).toList = ns := by rw [← e]; exact hi.numsOf
    rw [nums_intItems] at hn
    have ht' : s.heap.IsTuple a its.toArray := ht
    rw [e] at ht'
    refine PySem.W.ktm_sumG (I.ok.hd hc) ht' fun h' tk t' hk => ⟨.int ns.sum, H, I.kept hk, ⟨t', ?_⟩, q⟩
    rw [preSum_eq, List.take_of_length_le (by simp), hn]

end

/-! ### enumerate(tuple) -/
def IteT (K : PySem.W.Frag) (a : Addr) : It :=
  ⟨fun i H => ∃ (xs : List V) (x : V), SqT K H a xs ∧ xs[i]? = some x, fun i H v H' => ∃ T x, v = .ref T ∧ H T = none ∧ H' = upd H T (.tup [.int (i : Nat), x]) ∧ ∀ xs, SqT K H a xs → xs[i]? = some x, fun i H => ∃ xs : List V, SqT K H a xs ∧ xs.length ≤ i⟩
theorem tup_ne_iter {h : Heap} {a it : Addr} {items : Array Value} {i : Nat} (p : IsTup h a items) (q : h.IsTupleIter it a i) : a ≠ it := by
  obtain ⟨o, ho, hc, _⟩ := p
  obtain ⟨o', ho', hc', _⟩ := q
  intro e
  subst e
  rw [ho] at ho'
  cases ho'
  rw [hc] at hc'
  exact absurd hc' (by decide)
theorem meets_enumerate_newT (l : Addr) (items : Array Value) :
    Meets (Builtin.«enumerate.__new__» ⟨[.type "enumerate", .ref l], []⟩) (fun _ R s => s.heap.IsTuple l items ∧
      R (.ok (.ret (.ref (s.heap.push { cls := .type "tuple_iterator", data := .fields #[.ref l, .int 0 0] }).objs.size)))
        { s with heap := (s.heap.push { cls := .type "tuple_iterator", data := .fields #[.ref l, .int 0 0] }).push { cls := .type "enumerate", data := .fields #[.none, .bool false, .ref s.heap.objs.size, rawInt 0, .none, .none] } }) :=
  .of_wp fun prog w A R s h => by
    obtain ⟨hp, g, d, tk, os⟩ := s; obtain ⟨h1, h⟩ := h
    have hsub := sub_enumerate
    have q1 : ∀ {A' : Around} {E : Value → Shared → Prop} {Q : Value → Shared → Prop}, Q (.ref hp.objs.size) ⟨hp.push { cls := .type "tuple_iterator", data := .fields #[.ref l, .int 0 0] }, g, d, tk, os⟩ → wpAny (model prog w) A' (pyIter (.ref l)) Q E ⟨hp, g, d, tk, os⟩ :=
      fun q => wpAny_pyIter_tuple (s := ⟨hp, g, d, tk, os⟩) h1 q
    wp_walk using q1
    refine wpAny_stack_any fun st => wpAny_pure ?_
    split
    · rename_i c _ _ _ _ _
      cases (c == Value.type "enumerate")
      · wp_walk using q1
        exact ⟨_, rfl, h⟩
      · wp_walk using q1
        exact ⟨_, rfl, h⟩
    · wp_walk using q1
      exact ⟨_, rfl, h⟩
theorem call_enumerate_tup {prog : Program} {w : World} {A : Around} {E : Value → Shared → Prop} {s : Shared} {l : Addr} {items : Array Value} {Q : Value → Shared → Prop} (hL : s.heap.IsTuple l items)
    (h : ∀ h', IsEnum h' (s.heap.objs.size + 1) s.heap.objs.size 0 .none → h'.IsTupleIter s.heap.objs.size l 0 → h'.objs.size = s.heap.objs.size + 2 →
      (∀ b o, s.heap.get? b = some o → h'.get? b = some o) → Q (.ref (s.heap.objs.size + 1)) { s with heap := h' }) :
    wpAny (model prog w) A (call (.type "enumerate") [.ref l]) Q E s := by
  refine callType_new F.called_enumerate (by decide) (F.typeCall_enumerate_1 _) (F.newCall_enumerate_1 _) (fun obj => F.args_object_init_2 obj _) F.entry_enumerate_new
    (meets_enumerate_newT l items) ⟨hL, ?_⟩
  have hz : (s.heap.push { cls := .type "tuple_iterator", data := .fields #[.ref l, .int 0 0] }).objs.size = s.heap.objs.size + 1 := Heap.size_push ..
  show _ ∧ _
  rw [hz]
  have he : IsEnum ((s.heap.push { cls := .type "tuple_iterator", data := .fields #[.ref l, .int 0 0] }).push
      { cls := .type "enumerate", data := .fields #[.none, .bool false, .ref s.heap.objs.size, rawInt 0, .none, .none] }) (s.heap.objs.size + 1) s.heap.objs.size 0 .none := by
    have := Heap.get?_push_size (s.heap.push { cls := .type "tuple_iterator", data := .fields #[.ref l, .int 0 0] })
      (o := { cls := .type "enumerate", data := .fields #[.none, .bool false, .ref s.heap.objs.size, rawInt 0, .none, .none] }) rfl
    rw [hz] at this; exact this
  refine ⟨⟨_, he, rfl⟩, h _ he ⟨_, Heap.get?_push_of_some _ (Heap.get?_push_size _ rfl), rfl, rfl⟩ (by rw [Heap.size_push, hz]) fun b o x => Heap.get?_push_of_some _ (Heap.get?_push_of_some _ x)⟩
theorem turn_enumT {P : Program} {w : World} {K : PySem.W.Frag} {elts : List Expr} {kk : Nat} {tpos : Pos} (a e it : Addr) :
    Turn P w K (.Tuple elts kk tpos) (IteT K a) [e, it] e (fun i h => (∃ old, IsEnum h e it ((i : Nat) : Int) old) ∧ h.IsTupleIter it a i ∧ e ≠ it) where
  mem := by simp
  obj := fun i h st b hb => by
    obtain ⟨⟨old, he⟩, ⟨o, ho, hc, hd⟩, _⟩ := st
    have e' : b = e ∨ b = it := by simpa using hb
    rcases e' with z | z
    · rw [z]; exact ⟨_, he, fun v q => nomatch q⟩
    · rw [z]; exact ⟨o, ho, fun v q => by rw [hd] at q; cases q⟩
  keep := fun i h h' st k => let ⟨⟨old, he⟩, hi, hne⟩ := st; ⟨⟨old, k e (by simp) _ he⟩, hi.at fun o q => k it (by simp) o q, hne⟩
  item := by
    intro X hP hw hK hc i pins s σ H E I hf st hg
    subst hP hw hK
    obtain ⟨⟨old, he⟩, hit, hne⟩ := st
    obtain ⟨xs, x, hq, hx⟩ := hg
    obtain ⟨its, rv, p, hz⟩ := I.tuple hq
    obtain ⟨u, hu, ru⟩ := rv.get hx
    have hai : a ≠ it := tup_ne_iter p hit
    have hel : e < s.heap.objs.size := Heap.lt_size he
    have hil : it < s.heap.objs.size := by obtain ⟨_, q, _⟩ := hit; exact Heap.lt_size q
    have hal : a < s.heap.objs.size := by obtain ⟨_, q, _⟩ := p; exact Heap.lt_size q
    have hae : e ≠ a := by
      obtain ⟨o, ho, hcl, _⟩ := id p
      intro z
      rw [← z, he] at ho
      cases ho
      have hcl' : (Value.type "enumerate") = Value.type "tuple" := hcl
      exact absurd hcl' (by decide)
    have hlt : i < its.toArray.size := by
      have h1 := (List.getElem?_eq_some_iff.mp hu).1
      simpa using h1
    refine wpAny_pyNext_enum_itemD (Draws.tuple (prog := X.prog) (w := X.w) (A := X.A.in1) (show X.A.in1.handled = none from I.ok.hd hc) it a hai its.toArray) he ⟨hit, p⟩ hlt hne (by simp [hne, hae]) fun y h' tk hP ho st' hT hsz hk => ?_
    have ey : y = u := by
      have h1 : its.toArray[i]? = some y := hP
      have h2 : its.toArray[i]? = some u := by simpa using hu
      rw [h1] at h2
      exact Option.some.inj h2
    subst ey
    refine ⟨_, rfl, wpAny_letOwnedTupleGo_enum (s := { s with heap := h', toks := tk + 1 }) ho fun h'' he' sb => ?_⟩
    have hT2 : h''.get? s.heap.objs.size = some { cls := .type "tuple", data := .seq #[.int i tk, y] } := (sb.2 _ (Nat.ne_of_gt hel)).trans hT
    have new : ObjOk X.prog X.w (upd H s.heap.objs.size (.tup [.int (i : Nat), x])) h'' s.heap.objs.size (.tup [.int (i : Nat), x]) :=
      ⟨by show 2 ≤ sizeLine; decide, [.int i tk, y], .cons ⟨_, rfl⟩ (.cons ru .nil), ⟨_, hT2, rfl, _, rfl⟩⟩
    have I1 : Inv X pins σ (upd H s.heap.objs.size (.tup [.int (i : Nat), x])) { s with heap := h'', toks := tk + 1 } :=
      I.turnedNew (t' := tk + 1) (ch := [e, it]) (fun b ob hb q => (sb.2 b (fun z => hb (by simp [z]))).trans (hk b ob (fun z => hb (by simp [z])) (fun z => hb (by simp [z])) q)) hf (Nat.le_refl _) new
    refine ⟨.ref s.heap.objs.size, _, I1, rfl, ⟨_, x, rfl, I.hok.fresh (Nat.le_refl _), rfl, fun ys hy => by rw [I.tuple_inj hy hq]; exact hx⟩, ⟨⟨y, ?_⟩, st'.1.at fun o q => (sb.2 it (Ne.symm hne)).trans q, hne⟩, fun b hb => ?_⟩
    · have e1 : ((i + 1 : Nat) : Int) = (i : Int) + 1 := by omega
      rw [e1]; exact he'
    · have hb' : b < s.heap.objs.size := by
        have e' : b = e ∨ b = it := by simpa using hb
        rcases e' with z | z
        · rw [z]; exact hel
        · rw [z]; exact hil
      rw [upd_ne (Nat.ne_of_lt hb')]
      exact (hf b hb).1
  done := by
    intro X hP hw hK hc i pins s σ H E I hf st hg
    subst hP hw hK
    obtain ⟨⟨old, he⟩, hit, hne⟩ := st
    obtain ⟨xs, hq, hx⟩ := hg
    obtain ⟨its, rv, p, hz⟩ := I.tuple hq
    have hai : a ≠ it := tup_ne_iter p hit
    obtain ⟨f0, f1, f2, f3, f4, f5⟩ := hf it (by simp)
    have hl := rv.length
    unfold pyNext
    have hT : s.TypeIs (.ref e) "enumerate" := ⟨_, he, rfl⟩
    refine wpAny_bind (wpAny_attempt (wpAny_callSpecial?_slot (name := Str.ofString "__next__") hT F.slot_enumerate_next
      (wpAny_call_entry F.slot_enumerate_next hT F.entry_enumerate_next ?_ (F.args_enumerate_next_1 _))))
    show wpAny _ _ (field (.ref e) 2 >>= _) _ _ _
    refine wpAny_bind (wpAny_field he rfl (x := .ref it) rfl ?_)
    refine wpAny_bind (wpAny_nextOf_tuple_end (show X.A.in1.handled = none from I.ok.hd hc) hit p (by simp; omega) fun h' x he' hx' => ?_)
    obtain ⟨o, ho, hcx⟩ := hx'
    refine wpAny_bind (wpAny_isInstance (T := "StopIteration") (b := true) ⟨o, ho, hcx⟩ isSubtype_stop ?_)
    exact wpAny_pure ⟨rfl, I.turned (t' := s.toks) (fun b o hb q => he' b o hb q) f0 f1 f3 f4 f5⟩
  self := fun A i s Q E st h => let ⟨⟨_, he⟩, _⟩ := st; wpAny_pyIter_enum he h
def iEnumT (K : PySem.W.Frag) (ta : TA) : TI := fun σ H R => ta σ H fun vs H1 => ∃ a xs, vs = [.ref a] ∧ SqT K H1 a xs ∧ R (IteT K a) H1
theorem pi_enumT {X : Cx} {e : Expr} {ta : TA} {p pos tpos : Pos} {elts : List Expr} {kk : Nat} (hg : Gl X "enumerate") (hm : X.mg "enumerate" = none) (ha : PA X [e] ta) (hs : starEach [e] X.env = [(false, eval e X.env)] := by rfl) :
    PI X (.Tuple elts kk tpos) (.Call (.Name "enumerate" p) [e] [] pos) (iEnumT X.K ta) := by
  refine ⟨fun pins s σ H R I h => ?_⟩
  refine Call_ (ld_blt I hg hm boot_enumerate (PyProof.Rows.callWith_type1 (thn (ha.run pos pins s σ H _ I h) fun us s1 ⟨vs, H1, I1, r1, q1⟩ => ?_) hs rfl))
  obtain ⟨a, xs, ex, hq, q⟩ := q1
  subst ex
  cases r1 with
  | cons r rr =>
    cases rr
    cases r
    obtain ⟨its, rv, p', hz⟩ := I1.tuple hq
    refine call_enumerate_tup p' fun h' he hit hsz hk => wpAny_pyIter_enum he ?_
    have I2 : Inv X pins σ H1 { s1 with heap := h' } := I1.kept (t' := s1.toks) hk
    refine ⟨s1.heap.objs.size + 1, [s1.heap.objs.size + 1, s1.heap.objs.size], _, _, H1, rfl, I2, turn_enumT a (s1.heap.objs.size + 1) s1.heap.objs.size, ⟨⟨.none, he⟩, hit, Nat.succ_ne_self _⟩, fun b hb => ?_, q⟩
    have e' : b = s1.heap.objs.size + 1 ∨ b = s1.heap.objs.size := by simpa using hb
    have hle : s1.heap.objs.size ≤ b := by
      rcases e' with z | z
      · rw [z]; exact Nat.le_add_right _ _
      · rw [z]; exact Nat.le_refl _
    exact I1.fpOk hle (I1.hok.fresh hle)
theorem walk_enumT {K : PySem.W.Frag} {a : Addr} {xs : List V} : Walk (IteT K a) xs.length (fun H => SqT K H a xs) (YPair (fun i => some (.int (i : Nat))) (fun i => xs[i]?)) := by
  refine ⟨fun i _ hi q => ⟨xs, xs[i], q, by simp [hi]⟩, fun _ q => ⟨xs, q, Nat.le_refl _⟩, fun i H v H' _ q y => ?_⟩
  obtain ⟨T, x, h1, h2, h3, h4⟩ := y
  exact ⟨T, .int (i : Nat), x, h1, h2, h3, rfl, h4 xs q⟩
end L2

namespace L2
open PySem PySem.Spec PyProof.Rows

/-! ### names for readings -/
section
variable {X : Cx}
def rInt1 : List V → Hp → VK → Prop := fun xs H Q => (∃ i, xs = [.int i] ∧ Q (.int i) H) ∨ ∃ k, xs = [.bl k] ∧ Q (.int (if k then 1 else 0)) H
theorem cr_int1 : CallR X (.type "int") rInt1 := call_int1
def rAbs : List V → Hp → VK → Prop := fun xs H Q => ∃ i, xs = [.int i] ∧ Q (.int (if i < 0 then -i else i)) H
theorem cr_abs : CallR X (.builtin "abs") rAbs := call_abs
def rMax2 : List V → Hp → VK → Prop := fun xs H Q => ∃ i j, xs = [.int i, .int j] ∧ Q (.int (if j > i then j else i)) H
theorem cr_max2 (hc : X.calm = true) : CallR X (.builtin "max") rMax2 := call_max2 hc
def rMin2 : List V → Hp → VK → Prop := fun xs H Q => ∃ i j, xs = [.int i, .int j] ∧ Q (.int (if j < i then j else i)) H
theorem cr_min2 (hc : X.calm = true) : CallR X (.builtin "min") rMin2 := call_min2 hc
def rLenS (K : PySem.W.Frag) : List V → Hp → VK → Prop := fun xs H Q => ∃ p ys, xs = [.ref p] ∧ (SqL K H p ys ∨ SqT K H p ys) ∧ Q (.int ys.length) H
theorem cr_lenS : CallR X (.builtin "len") (rLenS X.K) := call_len_seq
def rListS (K : PySem.W.Frag) : List V → Hp → VK → Prop := fun xs H Q => ∃ p ys, xs = [.ref p] ∧ (SqL K H p ys ∨ SqT K H p ys) ∧ ∀ l, H l = none → Q (.ref l) (upd H l (.lst ys))
theorem cr_listS : CallR X (.type "list") (rListS X.K) := call_list_of
def rTupS (K : PySem.W.Frag) : List V → Hp → VK → Prop := fun xs H Q => ∃ p ys, xs = [.ref p] ∧ ((SqL K H p ys ∧ ∀ l, H l = none → Q (.ref l) (upd H l (.tup ys))) ∨ (SqT K H p ys ∧ Q (.ref p) H))
theorem cr_tupS : CallR X (.type "tuple") (rTupS X.K) := call_tuple_of
def rIsN : R2 := fun x y H Q => y = .non ∧ Q (.bl (decide (x = .non))) H
def rNotN : R2 := fun x y H Q => y = .non ∧ Q (.bl (!decide (x = .non))) H
theorem op_isNN : OpR X (compareOp .Is) rIsN := op_isN
theorem op_notNN : OpR X (compareOp .IsNot) rNotN := op_notN
def tTru (K : PySem.W.Frag) (ta : TE) : TT := fun σ H Q => ta σ H fun x H' => ∃ k, TruV K x H' k ∧ Q k H'
theorem pt_tru {a : Expr} {ta : TE} (ha : PE X a ta) (he : ∀ whole, isTrue a X.env whole = (do let v ← whole; standAt a.pos; holding [v] (truthy v))) : PT X a (tTru X.K ta) := pt_truth ha he
end

/-! ### the readings, one step each -/
def nth (ns : List Int) (i : Int) : Int := ns.getD i.toNat 0
theorem nth_at {ns : List Int} {i : Int} (h0 : 0 ≤ i) (h1 : i < ns.length) : atI (ns.map V.int) i = some (.int (nth ns i)) := by
  have e : i = ((i.toNat : Nat) : Int) := (Int.toNat_of_nonneg h0).symm
  have h2 : i.toNat < ns.length := by omega
  have g : (ns.map V.int)[i.toNat]? = some (.int (nth ns i)) := by
    rw [List.getElem?_map, List.getElem?_eq_getElem h2]
    unfold nth
    rw [List.getD_eq_getElem?_getD, List.getElem?_eq_getElem h2]
    rfl
  exact at_of e g
theorem nth_nat (ns : List Int) (i : Nat) : nth ns (i : Int) = ns.getD i 0 := rfl
theorem nth_mem {ns : List Int} {i : Int} (h0 : 0 ≤ i) (h1 : i < ns.length) : nth ns i ∈ ns := by
  have h2 : i.toNat < ns.length := by omega
  unfold nth
  rw [List.getD_eq_getElem?_getD, List.getElem?_eq_getElem h2]
  exact List.getElem_mem h2

theorem Same.seqT {K : PySem.W.Frag} {H H' : Hp} {a : Addr} {xs : List V} (e : Same H H') (h : SqT K H a xs) : SqT K H' a xs := by
  rcases h with (h | ⟨o, h⟩) | h
  · exact .inl (.inl (e _ _ h))
  · exact .inl (.inr ⟨o, e _ _ h⟩)
  · exact .inr h
/-- a list (true) or a tuple (false) -/
def Sq (b : Bool) (K : PySem.W.Frag) (H : Hp) (a : Addr) (xs : List V) : Prop := match b with
  | true => SqL K H a xs
  | false => SqT K H a xs
theorem Sq.or {b : Bool} {K : PySem.W.Frag} {H : Hp} {a : Addr} {xs : List V} (h : Sq b K H a xs) : SqL K H a xs ∨ SqT K H a xs := by
  cases b
  · exact .inr h
  · exact .inl h
theorem Sq.lst {K : PySem.W.Frag} {H : Hp} {a : Addr} {xs : List V} (h : H a = some (.lst xs)) : Sq true K H a xs := SqL.of h
theorem Sq.tup {K : PySem.W.Frag} {H : Hp} {a : Addr} {xs : List V} (h : H a = some (.tup xs)) : Sq false K H a xs := SqT.of h
theorem Same.sq {b : Bool} {K : PySem.W.Frag} {H H' : Hp} {a : Addr} {xs : List V} (e : Same H H') (h : Sq b K H a xs) : Sq b K H' a xs := by
  cases b
  · exact e.seqT h
  · exact e.seq h
theorem Same.at {H H' : Hp} {a : Addr} {o : HO} (e : Same H H') (h : H a = some o) : H' a = some o := e a o h
theorem Same.new {H : Hp} {p : Addr} {o : HO} (h : H p = none) : Same H (upd H p o) := fun b x e => by
  rw [upd_ne (ne_of_none e h)]
  exact e
theorem Same.mut {H H' : Hp} {p : Addr} {o : HO} (e : Same H H') (h : H p = none) : Same H (upd H' p o) := fun a u ha => by
  rw [upd_ne (ne_of_none ha h)]
  exact e a u ha

section
variable {K : PySem.W.Frag} {σ σ' : St} {H : Hp} {v x y : V} {ta tb te : TE} {t u : TS} {D : Ends} {c d : TT} {Q : VK} {QB : Bool → Hp → Prop} {QA : List V → Hp → Prop} {r : R2}
theorem go_start (e : σ = σ') (h : t D σ' H) : t D σ H := by rw [e]; exact h
-- values
theorem w_var {i : Nat} (h : σ[i]? = some (some v)) (q : Q v H) : tVar i σ H Q := ⟨v, h, q⟩
theorem w_c (q : Q v H) : tC v σ H Q := q
theorem w_op (q : ta σ H fun x H1 => tb σ H1 fun y H2 => r x y H2 Q) : tOp r ta tb σ H Q := q
theorem w_un {r : V → Hp → VK → Prop} (q : ta σ H fun x H1 => r x H1 Q) : tUn r ta σ H Q := q
theorem w_rU {g : Int → V} {i : Int} (q : Q (g i) H) : rU g (.int i) H Q := ⟨i, rfl, q⟩
theorem w_I0 {g : Int → Int → V} {i j : Int} (q : Q (g i j) H) : rI0 g (.int i) (.int j) H Q := ⟨i, j, rfl, rfl, q⟩
theorem w_I {C : Int → Int → Prop} {g : Int → Int → V} {i j : Int} (hc : C i j) (q : Q (g i j) H) : rI C g (.int i) (.int j) H Q := ⟨i, j, rfl, rfl, hc, q⟩
theorem w_addI {i j : Int} (q : Q (.int (i + j)) H) : rAddG K (.int i) (.int j) H Q := .inl ⟨i, j, rfl, rfl, q⟩
theorem w_eqI {i j : Int} (q : Q (.bl (decide (i = j))) H) : rEqG K (.int i) (.int j) H Q := .inl ⟨rfl, by
  have e : decide (V.int i = V.int j) = decide (i = j) := by
    rw [dec_int]
    by_cases h : i = j
    · subst h; simp
    · rw [decide_eq_false h]; exact beq_eq_false_iff_ne.mpr h
  rw [e]; exact q⟩
theorem w_neI {i j : Int} (q : Q (.bl (!decide (i = j))) H) : rNeG K (.int i) (.int j) H Q := .inl ⟨rfl, by
  have e : decide (V.int i = V.int j) = decide (i = j) := by
    rw [dec_int]
    by_cases h : i = j
    · subst h; simp
    · rw [decide_eq_false h]; exact beq_eq_false_iff_ne.mpr h
  rw [e]; exact q⟩
theorem w_eqS (hs : scal x y = true) (q : Q (.bl (decide (x = y))) H) : rEqG K x y H Q := .inl ⟨hs, q⟩
theorem w_eqD {d e : PyData} (hd : Dp K H x d) (he : Dp K H y e) (sd : SeqAt.shaped d = true) (se : SeqAt.shaped e = true) (q : Q (.bl (PyData.eqv d e)) H) : rEqG K x y H Q := .inr ⟨d, e, hd, he, sd, se, q⟩
theorem w_neD {d e : PyData} (hd : Dp K H x d) (he : Dp K H y e) (sd : SeqAt.shaped d = true) (se : SeqAt.shaped e = true) (q : Q (.bl (!PyData.eqv d e)) H) : rNeG K x y H Q := .inr ⟨d, e, hd, he, sd, se, q⟩
theorem w_isN (q : Q (.bl (decide (x = .non))) H) : rIsN x .non H Q := ⟨rfl, q⟩
theorem w_isNn (q : Q (.bl true) H) : rIsN .non .non H Q := ⟨rfl, q⟩
theorem w_isNi {i : Int} (q : Q (.bl false) H) : rIsN (.int i) .non H Q := ⟨rfl, q⟩
theorem w_isNb {b : Bool} (q : Q (.bl false) H) : rIsN (.bl b) .non H Q := ⟨rfl, q⟩
theorem w_isNs {z : Str} (q : Q (.bl false) H) : rIsN (.str z) .non H Q := ⟨rfl, q⟩
theorem w_isNr {a : Addr} (q : Q (.bl false) H) : rIsN (.ref a) .non H Q := ⟨rfl, q⟩
theorem w_notNn (q : Q (.bl false) H) : rNotN .non .non H Q := ⟨rfl, q⟩
theorem w_notNi {i : Int} (q : Q (.bl true) H) : rNotN (.int i) .non H Q := ⟨rfl, q⟩
theorem w_notNb {b : Bool} (q : Q (.bl true) H) : rNotN (.bl b) .non H Q := ⟨rfl, q⟩
theorem w_notNs {z : Str} (q : Q (.bl true) H) : rNotN (.str z) .non H Q := ⟨rfl, q⟩
theorem w_notNr {a : Addr} (q : Q (.bl true) H) : rNotN (.ref a) .non H Q := ⟨rfl, q⟩
theorem w_notN (q : Q (.bl (!decide (x = .non))) H) : rNotN x .non H Q := ⟨rfl, q⟩
theorem w_cb {r : List V → Hp → VK → Prop} {ta : TA} (q : ta σ H fun vs H1 => r vs H1 Q) : tCB r ta σ H Q := q
theorem w_aNil (q : QA [] H) : tNil σ H QA := q
theorem w_aCons {tr : TA} (q : ta σ H fun x H1 => tr σ H1 fun xs H2 => QA (x :: xs) H2) : tCons ta tr σ H QA := q
theorem w_int1 {i : Int} (q : Q (.int i) H) : rInt1 [.int i] H Q := .inl ⟨i, rfl, q⟩
theorem w_int1b {k : Bool} (q : Q (.int (if k then 1 else 0)) H) : rInt1 [.bl k] H Q := .inr ⟨k, rfl, q⟩
theorem w_abs {i : Int} (q : Q (.int (if i < 0 then -i else i)) H) : rAbs [.int i] H Q := ⟨i, rfl, q⟩
theorem w_max2 {i j : Int} (q : Q (.int (if j > i then j else i)) H) : rMax2 [.int i, .int j] H Q := ⟨i, j, rfl, q⟩
theorem w_min2 {i j : Int} (q : Q (.int (if j < i then j else i)) H) : rMin2 [.int i, .int j] H Q := ⟨i, j, rfl, q⟩
theorem w_lenS {p : Addr} {ys : List V} {b : Bool} (h : Sq b K H p ys) (q : Q (.int ys.length) H) : rLenS K [.ref p] H Q := ⟨p, ys, rfl, h.or, q⟩
theorem w_lenI {p : Addr} {ns : List Int} {b : Bool} (h : Sq b K H p (ns.map V.int)) (q : Q (.int ns.length) H) : rLenS K [.ref p] H Q := ⟨p, _, rfl, h.or, by rw [List.length_map]; exact q⟩
theorem w_sumI {p : Addr} {ns : List Int} {b : Bool} (h : Sq b K H p (ns.map V.int)) (q : Q (.int ns.sum) H) : rSumS K [.ref p] H Q := ⟨p, ns, rfl, h.or, q⟩
theorem w_listS {p : Addr} {ys : List V} {b : Bool} (h : Sq b K H p ys) (q : ∀ l, H l = none → Q (.ref l) (upd H l (.lst ys))) : rListS K [.ref p] H Q := ⟨p, ys, rfl, h.or, q⟩
theorem w_tupL {p : Addr} {ys : List V} (h : Sq true K H p ys) (q : ∀ l, H l = none → Q (.ref l) (upd H l (.tup ys))) : rTupS K [.ref p] H Q := ⟨p, ys, rfl, .inl ⟨h, q⟩⟩
theorem w_tupT {p : Addr} {ys : List V} (h : Sq false K H p ys) (q : Q (.ref p) H) : rTupS K [.ref p] H Q := ⟨p, ys, rfl, .inr ⟨h, q⟩⟩
theorem w_ix {b : Bool} {p : Addr} {xs : List V} {i : Int} (h : Sq b K H p xs) (ha : atI xs i = some v) (q : Q v H) : rIx K (.ref p) (.int i) H Q := by
  rcases h.or with h | h
  · exact .inl ⟨p, xs, i, v, rfl, rfl, h, ha, q⟩
  · exact .inr (.inl ⟨p, xs, i, v, rfl, rfl, h, ha, q⟩)
theorem w_ixI {b : Bool} {p : Addr} {ns : List Int} {i : Int} (h : Sq b K H p (ns.map V.int)) (h0 : 0 ≤ i) (h1 : i < ns.length) (q : Q (.int (nth ns i)) H) : rIx K (.ref p) (.int i) H Q := w_ix h (nth_at h0 h1) q
theorem w_tupD {ta : TA} (q : ta σ H fun xs H1 => xs.length ≤ sizeLine ∧ ∀ p, H1 p = none → Q (.ref p) (upd H1 p (.tup xs))) : tTup ta σ H Q := q
theorem w_lstD {ta : TA} (q : ta σ H fun xs H1 => xs.length ≤ sizeLine ∧ ∀ p, H1 p = none → Q (.ref p) (upd H1 p (.lst xs))) : tLst ta σ H Q := q
theorem w_call {sp : Sp} {dvs : List V} {E : XK} {ta : TA} (q : ta σ H fun vs H1 => sp (vs ++ dvs) H1 Q E) : tCall sp dvs E ta σ H Q := q
theorem w_andV (q : ta σ H fun x H1 => ∃ c, x = .bl c ∧ if c = true then tb σ H1 Q else Q (.bl false) H1) : tAndV ta tb σ H Q := q
theorem w_orV (q : ta σ H fun x H1 => ∃ c, x = .bl c ∧ if c = true then Q (.bl true) H1 else tb σ H1 Q) : tOrV ta tb σ H Q := q
theorem w_notV (q : ta σ H fun x H1 => ∃ c, x = .bl c ∧ Q (.bl (!c)) H1) : tNotV ta σ H Q := q
-- methods of lists
theorem w_bm {T : String} {r : V → List V → Hp → VK → Prop} {to : TE} {ta : TA} (q : to σ H fun x H1 => tyV K T x H1 ∧ ta σ H1 fun xs H2 => r x xs H2 Q) : tBM K T r to ta σ H Q := q
theorem w_append {l : Addr} {xs : List V} (h : H l = some (.lst xs)) (hz : xs.length < sizeLine) (q : Q .non (upd H l (.lst (xs ++ [y])))) : rAppend (.ref l) [y] H Q := ⟨l, xs, y, rfl, rfl, h, hz, q⟩
theorem w_tyL {l : Addr} {xs : List V} {B : Prop} (h : Sq true K H l xs) (q : B) : tyV K "list" (.ref l) H ∧ B := ⟨.inl ⟨rfl, _, h⟩, q⟩
-- tests
theorem w_test (q : ta σ H fun x H' => ∃ k, x = .bl k ∧ QB k H') : tTest ta σ H QB := q
theorem w_tB (q : ta σ H fun x H' => ∃ k, x = .bl k ∧ QB k H') : tB ta σ H QB := q
theorem w_tru (q : ta σ H fun x H' => ∃ k, TruV K x H' k ∧ QB k H') : tTru K ta σ H QB := q
theorem w_exb {b : Bool} {F : Bool → Prop} (q : F b) : ∃ k, V.bl b = .bl k ∧ F k := ⟨b, rfl, q⟩
theorem w_truB {b : Bool} {F : Bool → Prop} (q : F b) : ∃ k, TruV K (.bl b) H k ∧ F k := ⟨b, rfl, q⟩
theorem w_truI {i : Int} {F : Bool → Prop} (q : F (i != 0)) : ∃ k, TruV K (.int i) H k ∧ F k := ⟨_, rfl, q⟩
theorem w_not (q : c σ H fun b H1 => QB (!b) H1) : tNot c σ H QB := q
theorem w_and (q : c σ H fun b H1 => if b = true then d σ H1 QB else QB false H1) : tAnd c d σ H QB := q
theorem w_or (q : c σ H fun b H1 => if b = true then QB true H1 else d σ H1 QB) : tOr c d σ H QB := q
theorem w_ifE (q : c σ H fun b H1 => if b = true then ta σ H1 Q else tb σ H1 Q) : tIf c ta tb σ H Q := q
theorem w_iteD {p A B : Prop} {_ : Decidable p} (h1 : p → A) (h2 : ¬ p → B) : if decide p = true then A else B := by
  by_cases h : p
  · rw [if_pos (decide_eq_true h)]; exact h1 h
  · rw [if_neg (by simp [h])]; exact h2 h
theorem w_iteN {p A B : Prop} {_ : Decidable p} (h1 : ¬ p → A) (h2 : p → B) : if (!decide p) = true then A else B := by
  by_cases h : p
  · rw [if_neg (by simp [h])]; exact h2 h
  · rw [if_pos (by simp [h])]; exact h1 h
theorem w_iteNT {A B : Prop} (h : B) : if (!true) = true then A else B := h
theorem w_iteNF {A B : Prop} (h : A) : if (!false) = true then A else B := h
theorem w_iteB {b : Bool} {A B : Prop} (h1 : b = true → A) (h2 : b = false → B) : if b = true then A else B := by
  cases b
  · exact h2 rfl
  · exact h1 rfl
-- statements
variable {f b' c' : St → Hp → Prop} {rt : VK}
theorem w_seq (q : t ⟨u ⟨f, rt, b', c'⟩, rt, b', c'⟩ σ H) : tSeq t u ⟨f, rt, b', c'⟩ σ H := q
theorem w_asg {g : TG} (q : te σ H fun x H1 => g x σ H1 f) : tAsg te g ⟨f, rt, b', c'⟩ σ H := q
theorem w_gName {i : Nat} {N : St → Hp → Prop} (q : N (σ.set i (some v)) H) : gName i v σ H N := q
theorem w_drop (q : te σ H fun _ H1 => f σ H1) : tDrop te ⟨f, rt, b', c'⟩ σ H := q
theorem w_ret (q : te σ H rt) : tRet te ⟨f, rt, b', c'⟩ σ H := q
theorem w_retN (q : rt .non H) : tRetN ⟨f, rt, b', c'⟩ σ H := q
theorem w_ifS (q : c σ H fun b H1 => if b = true then t D σ H1 else u D σ H1) : tIfS c t u D σ H := q
theorem w_next (q : f σ H) : tNext ⟨f, rt, b', c'⟩ σ H := q
theorem w_brk (q : b' σ H) : tBreak ⟨f, rt, b', c'⟩ σ H := q
theorem w_cont (q : c' σ H) : tCont ⟨f, rt, b', c'⟩ σ H := q
theorem w_nx {f b c : St → Hp → Prop} {r : VK} (q : f σ H) : Ends.nx ⟨f, r, b, c⟩ σ H := q
theorem w_rt {f b c : St → Hp → Prop} {r : VK} (q : r v H) : Ends.rt ⟨f, r, b, c⟩ v H := q
theorem w_bk {f b c : St → Hp → Prop} {r : VK} (q : b σ H) : Ends.bk ⟨f, r, b, c⟩ σ H := q
theorem w_ct {f b c : St → Hp → Prop} {r : VK} (q : c σ H) : Ends.ct ⟨f, r, b, c⟩ σ H := q
theorem w_augI {i : Nat} {g : Int → Int → Int} {z : Int} (hx : σ[i]? = some (some (.int z))) (q : te σ H fun y H1 => ipI g (.int z) y H1 fun z H2 => f (σ.set i (some z)) H2) : tAug i te (ipI g) ⟨f, rt, b', c'⟩ σ H := ⟨_, hx, q⟩
theorem w_ipI {f : Int → Int → Int} {i j : Int} (q : Q (.int (f i j)) H) : ipI f (.int i) (.int j) H Q := ⟨i, j, rfl, rfl, q⟩
-- slices
theorem w_sl {r : V → Option Int → Option Int → Hp → VK → Prop} {tl th : TO} (q : te σ H fun x H1 => tl σ H1 fun l H2 => th σ H2 fun u H3 => r x l u H3 Q) : tSl r te tl th σ H Q := q
theorem w_noPart {QO : Option Int → Hp → Prop} (q : QO none H) : tNoPart σ H QO := q
theorem w_part {QO : Option Int → Hp → Prop} (q : te σ H fun x H1 => ∃ i, x = .int i ∧ QO (some i) H1) : tPart te σ H QO := q
theorem w_exi {i : Int} {F : Int → Prop} (q : F i) : ∃ k, V.int i = .int k ∧ F k := ⟨i, rfl, q⟩
theorem w_slL {a : Addr} {xs : List V} {lo hi : Option Int} (h : Sq true K H a xs) (q : ∀ p, H p = none → Q (.ref p) (upd H p (.lst (cutV xs lo hi)))) : rSlG K (.ref a) lo hi H Q := .inl ⟨a, xs, rfl, h, q⟩
-- loops
end
/-- what a for asks of its walk J -/
def LoopOk (J : It) (g : TG) (tb : TS) (D : Ends) (σ : St) (H : Hp) : Prop := ∃ W : Nat → Nat → St → Hp → Prop, (∃ m, W 0 m σ H) ∧ ∀ i m σ H, W i m σ H →
  (J.stop i H ∧ D.nx σ H) ∨ (J.go i H ∧ ∃ N : St → Hp → Prop, (∀ σ' H', N σ' H' → ∃ m', m' < m ∧ W (i + 1) m' σ' H') ∧ ∀ x H', J.yld i H x H' → g x σ H' fun σ2 H2 => tb { D with nx := N, ct := N, bk := D.nx } σ2 H2)
section
variable {K : PySem.W.Frag} {σ σ' : St} {H : Hp} {t : TS} {D : Ends} {g : TG} {f b' c' : St → Hp → Prop} {rt : VK}
theorem w_for {wi : TI} (q : wi σ H fun J H1 => LoopOk J g t D σ H1) : tFor wi g t D σ H := q
theorem w_iRng1 {ta : TA} {R : It → Hp → Prop} (q : ta σ H fun vs H1 => ∃ j : Int, vs = [.int j] ∧ -(2 ^ 62) ≤ j ∧ j < 2 ^ 62 ∧ R (Itr 0 j.toNat) H1) : iRng1 ta σ H R := q
theorem w_iRng2 {ta : TA} {R : It → Hp → Prop} (q : ta σ H fun vs H1 => ∃ i j : Int, vs = [.int i, .int j] ∧ (-(2 ^ 62) ≤ i ∧ i < 2 ^ 62 ∧ -(2 ^ 62) ≤ j ∧ j < 2 ^ 62) ∧ R (Itr i (j - i).toNat) H1) : iRng2 ta σ H R := q
theorem l_it {J : It} {n : Nat} {G : Hp → Prop} {Y : Nat → Hp → V → Hp → Prop} (w : Walk J n G Y) (Pv : Nat → St → Hp → Prop) (h0 : Pv 0 σ H) (hG : ∀ i σ H, i ≤ n → Pv i σ H → G H)
    (hs : ∀ i x σ H H', i < n → Pv i σ H → Y i H x H' → g x σ H' fun σ2 H2 => t ⟨Pv (i + 1), rt, f, Pv (i + 1)⟩ σ2 H2) (hd : ∀ σ H, Pv n σ H → f σ H) : LoopOk J g t ⟨f, rt, b', c'⟩ σ H := for_it w Pv h0 hG hs hd
/-- for k in range(n) -/
theorem l_range {n : Int} {k : Nat} (Pv : Nat → St → Hp → Prop) (h1 : -(2 ^ 62) ≤ n) (h2 : n < 2 ^ 62) (h0 : Pv 0 σ H)
    (hs : ∀ (i : Nat) σ' H', (i : Int) < n → Pv i σ' H' → t ⟨Pv (i + 1), rt, f, Pv (i + 1)⟩ (σ'.set k (some (.int (i : Int)))) H') (hd : ∀ σ' H', Pv n.toNat σ' H' → f σ' H') :
    ∃ j : Int, [V.int n] = [.int j] ∧ -(2 ^ 62) ≤ j ∧ j < 2 ^ 62 ∧ LoopOk (Itr 0 j.toNat) (gName k) t ⟨f, rt, b', c'⟩ σ H := by
  refine ⟨n, rfl, h1, h2, l_it walk_range Pv h0 (fun _ _ _ _ _ => trivial) (fun i x σ' H1 H2 hi hp hy => ?_) hd⟩
  obtain ⟨e, ex⟩ := hy
  subst e ex
  show gName k (V.int (0 + (i : Int))) σ' _ _
  rw [Int.zero_add]
  exact hs i σ' _ (by omega) hp
theorem l_range2 {lo n : Int} {k : Nat} (Pv : Nat → St → Hp → Prop) (h1 : -(2 ^ 62) ≤ lo ∧ lo < 2 ^ 62 ∧ -(2 ^ 62) ≤ n ∧ n < 2 ^ 62) (h0 : Pv 0 σ H)
    (hs : ∀ (i : Nat) σ' H', lo + (i : Int) < n → Pv i σ' H' → t ⟨Pv (i + 1), rt, f, Pv (i + 1)⟩ (σ'.set k (some (.int (lo + (i : Int))))) H') (hd : ∀ σ' H', Pv (n - lo).toNat σ' H' → f σ' H') :
    ∃ i j : Int, [V.int lo, V.int n] = [.int i, .int j] ∧ (-(2 ^ 62) ≤ i ∧ i < 2 ^ 62 ∧ -(2 ^ 62) ≤ j ∧ j < 2 ^ 62) ∧ LoopOk (Itr i (j - i).toNat) (gName k) t ⟨f, rt, b', c'⟩ σ H := by
  refine ⟨lo, n, rfl, h1, l_it walk_range Pv h0 (fun _ _ _ _ _ => trivial) (fun i x σ' H1 H2 hi hp hy => ?_) hd⟩
  obtain ⟨e, ex⟩ := hy
  subst e ex
  exact hs i σ' _ (by omega) hp
end

/-! ### for x in (a list or a tuple), enumerate of either: what is walked is reckoned first -/
def iSeq (K : PySem.W.Frag) (tl : TE) : TI := fun σ H R => tl σ H fun x H1 => ∃ a, x = .ref a ∧ ((∃ xs, SqL K H1 a xs) ∧ R (Itl K a) H1 ∨ (∃ xs, SqT K H1 a xs) ∧ R (Itt K a) H1)
section
variable {X : Cx}
theorem pi_seqS {tg l : Expr} {tl : TE} (hl : PE X l tl) : PI X tg l (iSeq X.K tl) := by
  refine ⟨fun pins s σ H R I h => ?_⟩
  refine thn (hl.run pins s σ H _ I h) fun v s1 ⟨x, H1, I1, r1, q1⟩ => ?_
  obtain ⟨a, e, q1⟩ := q1
  subst e
  cases r1
  rcases q1 with ⟨⟨xs, hq⟩, q⟩ | ⟨⟨xs, hq⟩, q⟩
  · obtain ⟨its, rv, p, hz⟩ := I1.list hq
    refine wpAny_pyIter_list p.isList ?_
    refine ⟨s1.heap.objs.size, [s1.heap.objs.size], _, _, H1, rfl, I1.kept (t' := s1.toks) fun b o e => Heap.get?_push_of_some _ e, turn_list a _, ⟨_, Heap.get?_push_size _ rfl, rfl, rfl⟩, fun b hb => ?_, q⟩
    have e : b = s1.heap.objs.size := by simpa using hb
    subst e
    exact I1.fpOk (Nat.le_refl _) (I1.hok.fresh (Nat.le_refl _))
  · obtain ⟨its, rv, p, hz⟩ := I1.tuple hq
    refine wpAny_pyIter_tuple (show s1.heap.IsTuple a its.toArray from p) ?_
    refine ⟨s1.heap.objs.size, [s1.heap.objs.size], _, _, H1, rfl, I1.kept (t' := s1.toks) fun b o e => Heap.get?_push_of_some _ e, turn_tuple a _, ⟨_, Heap.get?_push_size _ rfl, rfl, rfl⟩, fun b hb => ?_, q⟩
    have e : b = s1.heap.objs.size := by simpa using hb
    subst e
    exact I1.fpOk (Nat.le_refl _) (I1.hok.fresh (Nat.le_refl _))
def iEnumS (K : PySem.W.Frag) (ta : TA) : TI := fun σ H R => ta σ H fun vs H1 => ∃ a, vs = [.ref a] ∧ ((∃ xs, SqL K H1 a xs) ∧ R (Ite K a) H1 ∨ (∃ xs, SqT K H1 a xs) ∧ R (IteT K a) H1)
theorem pi_enumS {e : Expr} {ta : TA} {p pos tpos : Pos} {elts : List Expr} {kk : Nat} (hg : Gl X "enumerate") (hm : X.mg "enumerate" = none) (ha : PA X [e] ta) (hs : starEach [e] X.env = [(false, eval e X.env)] := by rfl) :
    PI X (.Tuple elts kk tpos) (.Call (.Name "enumerate" p) [e] [] pos) (iEnumS X.K ta) := by
  refine ⟨fun pins s σ H R I h => ?_⟩
  refine Call_ (ld_blt I hg hm boot_enumerate (PyProof.Rows.callWith_type1 (thn (ha.run pos pins s σ H _ I h) fun us s1 ⟨vs, H1, I1, r1, q1⟩ => ?_) hs rfl))
  obtain ⟨a, ex, q1⟩ := q1
  subst ex
  cases r1 with
  | cons r rr =>
    cases rr
    cases r
    have fp : ∀ b ∈ [s1.heap.objs.size + 1, s1.heap.objs.size], FpOk X pins H1 b := fun b hb => by
      have e' : b = s1.heap.objs.size + 1 ∨ b = s1.heap.objs.size := by simpa using hb
      have hle : s1.heap.objs.size ≤ b := by
        rcases e' with z | z
        · rw [z]; exact Nat.le_add_right _ _
        · rw [z]; exact Nat.le_refl _
      exact I1.fpOk hle (I1.hok.fresh hle)
    rcases q1 with ⟨⟨xs, hq⟩, q⟩ | ⟨⟨xs, hq⟩, q⟩
    · obtain ⟨its, rv, p', hz⟩ := I1.list hq
      refine call_enumerate_list p'.isList fun h' he hit hsz hk => wpAny_pyIter_enum he ?_
      have I2 : Inv X pins σ H1 { s1 with heap := h' } := I1.kept (t' := s1.toks) hk
      exact ⟨s1.heap.objs.size + 1, [s1.heap.objs.size + 1, s1.heap.objs.size], _, _, H1, rfl, I2, turn_enum a (s1.heap.objs.size + 1) s1.heap.objs.size, ⟨⟨.none, he⟩, hit, Nat.succ_ne_self _⟩, fp, q⟩
    · obtain ⟨its, rv, p', hz⟩ := I1.tuple hq
      refine call_enumerate_tup p' fun h' he hit hsz hk => wpAny_pyIter_enum he ?_
      have I2 : Inv X pins σ H1 { s1 with heap := h' } := I1.kept (t' := s1.toks) hk
      exact ⟨s1.heap.objs.size + 1, [s1.heap.objs.size + 1, s1.heap.objs.size], _, _, H1, rfl, I2, turn_enumT a (s1.heap.objs.size + 1) s1.heap.objs.size, ⟨⟨.none, he⟩, hit, Nat.succ_ne_self _⟩, fp, q⟩
end
section
variable {K : PySem.W.Frag} {σ : St} {H : Hp} {t : TS} {D : Ends} {g : TG} {f b' c' : St → Hp → Prop} {rt : VK}
theorem w_iSeq {tl : TE} {R : It → Hp → Prop} (q : tl σ H fun x H1 => ∃ a, x = .ref a ∧ ((∃ xs, SqL K H1 a xs) ∧ R (Itl K a) H1 ∨ (∃ xs, SqT K H1 a xs) ∧ R (Itt K a) H1)) : iSeq K tl σ H R := q
theorem w_iEnumS {ta : TA} {R : It → Hp → Prop} (q : ta σ H fun vs H1 => ∃ a, vs = [.ref a] ∧ ((∃ xs, SqL K H1 a xs) ∧ R (Ite K a) H1 ∨ (∃ xs, SqT K H1 a xs) ∧ R (IteT K a) H1)) : iEnumS K ta σ H R := q
theorem l_seq {b : Bool} {a : Addr} (xs : List V) (Pv : Nat → St → Hp → Prop) (h : Sq b K H a xs) (h0 : Pv 0 σ H) (hG : ∀ i σ H, i ≤ xs.length → Pv i σ H → Sq b K H a xs)
    (hs : ∀ (i : Nat) x σ' H', i < xs.length → xs[i]? = some x → Pv i σ' H' → g x σ' H' fun σ2 H2 => t ⟨Pv (i + 1), rt, f, Pv (i + 1)⟩ σ2 H2) (hd : ∀ σ' H', Pv xs.length σ' H' → f σ' H') :
    ∃ a', V.ref a = .ref a' ∧ ((∃ xs, SqL K H a' xs) ∧ LoopOk (Itl K a') g t ⟨f, rt, b', c'⟩ σ H ∨ (∃ xs, SqT K H a' xs) ∧ LoopOk (Itt K a') g t ⟨f, rt, b', c'⟩ σ H) := by
  refine ⟨a, rfl, ?_⟩
  cases b with
  | true =>
    refine .inl ⟨⟨xs, h⟩, l_it (walk_list (xs := xs)) Pv h0 hG (fun i x σ' H1 H2 hi hp hy => ?_) hd⟩
    obtain ⟨e, ex⟩ := hy
    subst e
    exact hs i x σ' _ hi ex hp
  | false =>
    refine .inr ⟨⟨xs, h⟩, l_it (walk_tup (xs := xs)) Pv h0 hG (fun i x σ' H1 H2 hi hp hy => ?_) hd⟩
    obtain ⟨e, ex⟩ := hy
    subst e
    exact hs i x σ' _ hi ex hp
theorem l_enum {b : Bool} {a : Addr} (xs : List V) (Pv : Nat → St → Hp → Prop) (h : Sq b K H a xs) (h0 : Pv 0 σ H) (hG : ∀ i σ H, i ≤ xs.length → Pv i σ H → Sq b K H a xs)
    (hs : ∀ (i : Nat) x (T : Addr) σ' H', i < xs.length → xs[i]? = some x → Pv i σ' H' → H' T = none → g (.ref T) σ' (upd H' T (.tup [.int (i : Int), x])) fun σ2 H2 => t ⟨Pv (i + 1), rt, f, Pv (i + 1)⟩ σ2 H2) (hd : ∀ σ' H', Pv xs.length σ' H' → f σ' H') :
    ∃ a', [V.ref a] = [.ref a'] ∧ ((∃ xs, SqL K H a' xs) ∧ LoopOk (Ite K a') g t ⟨f, rt, b', c'⟩ σ H ∨ (∃ xs, SqT K H a' xs) ∧ LoopOk (IteT K a') g t ⟨f, rt, b', c'⟩ σ H) := by
  refine ⟨a, rfl, ?_⟩
  cases b with
  | true =>
    refine .inl ⟨⟨xs, h⟩, l_it (walk_enum (xs := xs)) Pv h0 hG (fun i x σ' H1 H2 hi hp hy => ?_) hd⟩
    obtain ⟨T, u, v, rfl, hT, e, hu, hv⟩ := hy
    cases hu
    subst e
    exact hs i v T σ' _ hi hv hp hT
  | false =>
    refine .inr ⟨⟨xs, h⟩, l_it (walk_enumT (xs := xs)) Pv h0 hG (fun i x σ' H1 H2 hi hp hy => ?_) hd⟩
    obtain ⟨T, u, v, rfl, hT, e, hu, hv⟩ := hy
    cases hu
    subst e
    exact hs i v T σ' _ hi hv hp hT
/-- a, b = (a new pair) -/
theorem w_pair {i j : Nat} {a : Addr} {x y : V} {N : St → Hp → Prop} (h : Sq false K H a [x, y]) (q : N ((σ.set i (some x)).set j (some y)) H) : gTup K 2 (gCons (gName i) (gCons (gName j) gNil)) (.ref a) σ H N :=
  ⟨a, [x, y], rfl, h, rfl, x, [y], rfl, y, [], rfl, rfl, q⟩
end
end L2

namespace L2
open PySem PySem.Spec PyProof.Rows
/-! ### stores into lists, cuts, isinstance, lists of numbers -/
section
variable {K : PySem.W.Frag} {σ : St} {H : Hp} {v x : V} {D : Ends} {t u : TS} {Q : VK} {ta tb : TE}
theorem w_gSub {r : TSet} {N : St → Hp → Prop} (q : ta σ H fun o H1 => tb σ H1 fun i H2 => r o i v H2 fun H3 => N σ H3) : gSub ta tb r v σ H N := q
theorem w_setI {p : Addr} {ns : List Int} {k z : Int} {N : Hp → Prop} (h : H p = some (.lst (ns.map V.int))) (h0 : 0 ≤ k) (h1 : k < ns.length) (q : N (upd H p (.lst ((ns.set k.toNat z).map V.int)))) : rSetL (.ref p) (.int k) (.int z) H N := by
  refine ⟨p, ns.map V.int, k, k.toNat, rfl, rfl, h, ?_, ?_⟩
  · unfold ixN
    rw [if_pos h0, if_pos (by rw [List.length_map]; omega)]
  · rw [← List.map_set]; exact q
theorem w_setL {p : Addr} {xs : List V} {k : Int} {N : Hp → Prop} (h : H p = some (.lst xs)) (h0 : 0 ≤ k) (h1 : k < xs.length) (q : N (upd H p (.lst (xs.set k.toNat v)))) : rSetL (.ref p) (.int k) v H N := by
  refine ⟨p, xs, k, k.toNat, rfl, rfl, h, ?_, q⟩
  unfold ixN
  rw [if_pos h0, if_pos (by omega)]
theorem w_cut {f b' c' : St → Hp → Prop} {rt : VK} (Mid : St → Hp → Prop) (h1 : t ⟨Mid, rt, b', c'⟩ σ H) (h2 : ∀ σ' H', Mid σ' H' → u ⟨f, rt, b', c'⟩ σ' H') : Evl.tCut t u ⟨f, rt, b', c'⟩ σ H := ⟨Mid, h1, h2⟩
theorem w_isi {tn cn : String} {b : Bool} (ht : TyX K H x (.type tn)) (hk : kitB tn cn = some b) (q : Q (.bl b) H) : rIsi K [x, .ty cn] H Q := ⟨x, .ty cn, _, _, b, rfl, .ty cn, ht, kit_ty hk, q⟩
theorem tyx_tup {a : Addr} {xs : List V} (h : SqT K H a xs) : TyX K H (.ref a) (.type "tuple") := by
  rcases h with (h | ⟨o, h⟩) | ⟨o, its, n, h1, h2, _⟩
  · exact .base (.tup h)
  · exact .fTuple h
  · exact .kTuple h1 h2
theorem tyx_lst {a : Addr} {xs : List V} (h : SqL K H a xs) : TyX K H (.ref a) (.type "list") := by
  rcases h with (h | ⟨o, h⟩) | ⟨o, its, n, h1, h2, _⟩
  · exact .base (.lst h)
  · exact .base (.frz h)
  · exact .kList h1 h2
end
theorem last_at_neg {ns : List Int} (h : 0 < ns.length) : ∃ z, z ∈ ns ∧ atI (ns.map V.int) (-1) = some (.int z) := by
  refine ⟨ns[ns.length - 1], List.getElem_mem _, ?_⟩
  unfold atI ixN
  rw [if_neg (by decide), if_pos (by rw [List.length_map]; omega)]
  show (ns.map V.int)[(-1 + (((ns.map V.int).length : Nat) : Int)).toNat]? = _
  rw [List.length_map, show (-1 + ((ns.length : Nat) : Int)).toNat = ns.length - 1 by omega, List.getElem?_map, List.getElem?_eq_getElem (by omega)]
  rfl
theorem sum_nonneg : ∀ {ns : List Int}, (∀ x ∈ ns, (0 : Int) ≤ x) → 0 ≤ ns.sum
  | [], _ => by simp
  | a :: r, h => by
    have h1 := h a (List.mem_cons_self ..)
    have h2 := sum_nonneg (ns := r) fun x hx => h x (List.mem_cons_of_mem _ hx)
    rw [List.sum_cons]; omega
theorem sum_ge_mem : ∀ {ns : List Int} {z : Int}, (∀ x ∈ ns, (0 : Int) ≤ x) → z ∈ ns → z ≤ ns.sum
  | a :: r, z, h, hz => by
    have h1 := h a (List.mem_cons_self ..)
    have h2 := sum_nonneg (ns := r) fun x hx => h x (List.mem_cons_of_mem _ hx)
    rw [List.sum_cons]
    rcases List.mem_cons.mp hz with e | e
    · subst e; omega
    · have := sum_ge_mem (ns := r) (fun x hx => h x (List.mem_cons_of_mem _ hx)) e
      omega
/-- the same data by _law_same: no deeper than n -/
def Sm (K : PySem.W.Frag) (H : Hp) : Nat → V → V → Prop
  | 0, x, y => x = y ∧ (x = .non ∨ (∃ b, x = .bl b) ∨ (∃ i, x = .int i) ∨ ∃ s, x = .str s)
  | n + 1, x, y => (x = y ∧ (x = .non ∨ (∃ b, x = .bl b) ∨ (∃ i, x = .int i) ∨ ∃ s, x = .str s)) ∨
    ∃ (a a' : Addr) (k : Bool) (xs ys : List V), x = .ref a ∧ y = .ref a' ∧ SqT K H a xs ∧ Sq k K H a' ys ∧ xs.length = ys.length ∧ ys.length ≤ 100000 ∧ ∀ (i : Nat) x' y', xs[i]? = some x' → ys[i]? = some y' → Sm K H n x' y'
theorem Sm.int {K : PySem.W.Frag} {H : Hp} {n : Nat} {i : Int} : Sm K H n (.int i) (.int i) := by
  cases n
  · exact ⟨rfl, .inr (.inr (.inl ⟨i, rfl⟩))⟩
  · exact .inl ⟨rfl, .inr (.inr (.inl ⟨i, rfl⟩))⟩
theorem Same.sm {K : PySem.W.Frag} {H H' : Hp} (e : Same H H') : ∀ {n : Nat} {x y : V}, Sm K H n x y → Sm K H' n x y
  | 0, _, _, h => h
  | n + 1, _, _, h => by
    rcases h with h | ⟨a, a', k, xs, ys, h1, h2, h3, h4, h5, hz, h6⟩
    · exact .inl h
    · exact .inr ⟨a, a', k, xs, ys, h1, h2, e.seqT h3, e.sq h4, h5, hz, fun i x' y' hx hy => Same.sm e (h6 i x' y' hx hy)⟩
end L2

namespace L2
open PySem PySem.Spec PyProof.Rows
/-! ### lists of numbers: cut, compared, looked into -/
section
variable {K : PySem.W.Frag} {H : Hp} {Q : VK}
theorem cutV_to (ns : List Int) {j : Int} (hj : 0 ≤ j) : cutV (ns.map V.int) none (some j) = (ns.take j.toNat).map V.int := by
  have e : j = ((j.toNat : Nat) : Int) := (Int.toNat_of_nonneg hj).symm
  unfold cutV
  rw [HT.sIx_none, e, HT.sIx_nat, List.drop_zero, Nat.sub_zero, Int.toNat_natCast, List.map_take, List.length_map]
  rcases Nat.le_total j.toNat ns.length with h | h
  · rw [Nat.min_eq_left h]
  · rw [Nat.min_eq_right h, List.take_of_length_le (by rw [List.length_map]; exact Nat.le_refl _), List.take_of_length_le (by rw [List.length_map]; exact h)]
theorem w_slTo {a : Addr} {ns : List Int} {j : Int} (h : Sq true K H a (ns.map V.int)) (hj : 0 ≤ j) (q : ∀ p, H p = none → Q (.ref p) (upd H p (.lst ((ns.take j.toNat).map V.int)))) : rSlG K (.ref a) none (some j) H Q :=
  .inl ⟨a, ns.map V.int, rfl, h, fun p hp => by rw [cutV_to ns hj]; exact q p hp⟩
theorem dpAll_ints {ns : List Int} : DpAll K H (ns.map V.int) (ns.map PyData.int) := by
  induction ns with
  | nil => exact .nil
  | cons a r ih => exact .cons (.int a) ih
theorem dp_ints {b : Bool} {a : Addr} {ns : List Int} (h : Sq b K H a (ns.map V.int)) : Dp K H (.ref a) (if b then .list (ns.map PyData.int) else .tuple (ns.map PyData.int)) := by
  cases b
  · exact .tup h dpAll_ints
  · exact .lst h dpAll_ints
theorem canLay_ints (ns : List Int) : PyData.canLayAll0 (ns.map PyData.int) = true := by
  induction ns with
  | nil => rfl
  | cons a r ih => simp only [List.map_cons, PyData.canLayAll0, PyData.canLay0, ih, Bool.and_self]
theorem depth_ints (ns : List Int) : PyData.depthAll (ns.map PyData.int) = 0 := by
  induction ns with
  | nil => rfl
  | cons a r ih => simp only [List.map_cons, PyData.depthAll, PyData.depth, ih, Nat.max_self]
theorem shaped_ints (ns : List Int) : SeqAt.shaped (.list (ns.map PyData.int)) = true := by
  simp [SeqAt.shaped, PyData.canLay0, PyData.depth, canLay_ints, depth_ints]
theorem shaped_intsT (ns : List Int) : SeqAt.shaped (.tuple (ns.map PyData.int)) = true := by
  simp [SeqAt.shaped, PyData.canLay0, PyData.depth, canLay_ints, depth_ints]
theorem eqvAll_ints (ns : List Int) : PyData.eqvAll (ns.map PyData.int) (ns.map PyData.int) = true := by
  induction ns with
  | nil => rfl
  | cons a r ih => simp only [List.map_cons, PyData.eqvAll, PyData.eqv, ih, beq_self_eq_true, Bool.and_self]
theorem w_neInts {a a' : Addr} {ns : List Int} (h : Sq true K H a (ns.map V.int)) (h' : Sq true K H a' (ns.map V.int)) (q : Q (.bl false) H) : rNeG K (.ref a) (.ref a') H Q :=
  w_neD (dp_ints h) (dp_ints h') (shaped_ints ns) (shaped_ints ns) (by
    have e : PyData.eqv (.list (ns.map PyData.int)) (.list (ns.map PyData.int)) = true := by simp only [PyData.eqv, eqvAll_ints]
    show Q (.bl (!PyData.eqv (.list (ns.map PyData.int)) (.list (ns.map PyData.int)))) H
    rw [e]; exact q)
theorem flat_ints (ns : List Int) : (ns.map V.int).all flatV = true := by
  induction ns with
  | nil => rfl
  | cons a r ih => simp only [List.map_cons, List.all_cons, ih, Bool.and_true]; rfl
theorem eqV_int (i j : Int) : eqV (.int i) (.int j) = (i == j) := rfl
theorem w_maxI {a : Addr} {ns : List Int} (h : Sq true K H a (ns.map V.int)) (hp : 0 < ns.length) (q : ∀ m, m ∈ ns → (∀ y, y ∈ ns → y ≤ m) → Q (.int m) H) : rMax K [.ref a] H Q := ⟨a, ns, rfl, h, hp, q⟩
theorem w_indexI {a : Addr} {ns : List Int} {z : Int} {j : Nat} (h : Sq true K H a (ns.map V.int)) (hj : j < ns.length) (e : nth ns (j : Nat) = z) (hno : ∀ m : Nat, m < j → nth ns (m : Nat) ≠ z) (q : Q (.int (j : Nat)) H) : rIndex K (.ref a) [.int z] H Q := by
  have hg : ∀ (m : Nat), m < ns.length → (ns.map V.int)[m]? = some (.int (nth ns (m : Nat))) := fun m hm => by
    rw [List.getElem?_map, List.getElem?_eq_getElem hm, nth_nat, List.getD_eq_getElem?_getD, List.getElem?_eq_getElem hm]
    rfl
  refine ⟨a, ns.map V.int, .int z, j, .int z, rfl, rfl, h, rfl, flat_ints ns, by rw [hg j hj, e], by rw [eqV_int]; exact beq_self_eq_true z, fun m z' hm hz => ?_, q⟩
  rw [hg m (by omega)] at hz
  cases hz
  rw [eqV_int]
  exact beq_eq_false_iff_ne.mpr (hno m hm)
end
end L2

namespace L2
open PySem PySem.Spec PyProof.Rows
/-! ### zip of two, each a list (true) or a tuple (false) -/
def ItOf (b : Bool) (h : Heap) (it a : Addr) (i : Nat) : Prop := match b with
  | true => h.IsListIter it a i
  | false => h.IsTupleIter it a i
def SrcOf (b : Bool) (h : Heap) (a : Addr) (items : Array Value) : Prop := match b with
  | true => h.IsList a items
  | false => h.IsTuple a items
theorem ItOf.at {b : Bool} {h h' : Heap} {it a : Addr} {i : Nat} (x : ItOf b h it a i) (k : ∀ o, h.get? it = some o → h'.get? it = some o) : ItOf b h' it a i := by
  cases b with
  | true => exact Heap.IsListIter.at (show h.IsListIter it a i from x) k
  | false => exact Heap.IsTupleIter.at (show h.IsTupleIter it a i from x) k
theorem ItOf.obj {b : Bool} {h : Heap} {it a : Addr} {i : Nat} (x : ItOf b h it a i) : ∃ o, h.get? it = some o ∧ ∀ v, o.data ≠ .cell v := by
  cases b with
  | true => obtain ⟨o, e, _, d⟩ := (show h.IsListIter it a i from x); exact ⟨o, e, fun v q => by rw [d] at q; cases q⟩
  | false => obtain ⟨o, e, _, d⟩ := (show h.IsTupleIter it a i from x); exact ⟨o, e, fun v q => by rw [d] at q; cases q⟩
theorem SrcOf.ne {b : Bool} {h : Heap} {a it : Addr} {items : Array Value} {b' : Bool} {a' : Addr} {i : Nat} (p : SrcOf b h a items) (q : ItOf b' h it a' i) : a ≠ it := by
  intro e
  subst e
  have hp : ∃ o, h.get? a = some o ∧ (o.cls = .type "list" ∨ o.cls = .type "tuple") := by
    cases b with
    | true => obtain ⟨o, ho, hc, _⟩ := (show h.IsList a items from p); exact ⟨o, ho, .inl hc⟩
    | false => obtain ⟨o, ho, hc, _⟩ := (show h.IsTuple a items from p); exact ⟨o, ho, .inr hc⟩
  have hq : ∃ o, h.get? a = some o ∧ (o.cls = .type "list_iterator" ∨ o.cls = .type "tuple_iterator") := by
    cases b' with
    | true => obtain ⟨o, ho, hc, _⟩ := (show h.IsListIter a a' i from q); exact ⟨o, ho, .inl hc⟩
    | false => obtain ⟨o, ho, hc, _⟩ := (show h.IsTupleIter a a' i from q); exact ⟨o, ho, .inr hc⟩
  obtain ⟨o, ho, hc⟩ := hp
  obtain ⟨o', ho', hc'⟩ := hq
  rw [ho] at ho'
  cases ho'
  rcases hc with hc | hc <;> rcases hc' with hc' | hc' <;> (rw [hc] at hc'; exact absurd hc' (by decide))
theorem Inv.src {X : Cx} {pins : List (Addr × Obj)} {σ : St} {H : Hp} {s : Shared} {b : Bool} {a : Addr} {xs : List V} (I : Inv X pins σ H s) (h : Sq b X.K H a xs) : ∃ its : List Value, Vals xs its ∧ SrcOf b s.heap a its.toArray ∧ a < s.heap.objs.size := by
  cases b with
  | true =>
    obtain ⟨its, rv, p, _⟩ := I.list h
    exact ⟨its, rv, p.isList, p.lt⟩
  | false =>
    obtain ⟨its, rv, p, _⟩ := I.tuple h
    obtain ⟨o, ho, _⟩ := id p
    exact ⟨its, rv, p, Heap.lt_size ho⟩
theorem Inv.sq_inj {X : Cx} {pins : List (Addr × Obj)} {σ : St} {H : Hp} {s : Shared} {b : Bool} {a : Addr} {xs ys : List V} (I : Inv X pins σ H s) (h : Sq b X.K H a xs) (h' : Sq b X.K H a ys) : xs = ys := by
  cases b with
  | true => exact I.list_inj h h'
  | false => exact I.tuple_inj h h'
theorem drawsOf {prog : Program} {w : World} {A : Around} (b : Bool) (hh : A.handled = none) (it a : Addr) (hne : a ≠ it) (items : Array Value) :
    Draws prog w A it [it, a] items.size (fun i v => items[i]? = some v) (fun i h => ItOf b h it a i ∧ SrcOf b h a items) := by
  cases b with
  | true => exact Draws.list hh it a hne items
  | false => exact Draws.tuple hh it a hne items
def ItzS (b1 b2 : Bool) (K : PySem.W.Frag) (a b : Addr) : It :=
  ⟨fun i H => ∃ (xs ys : List V) (x y : V), Sq b1 K H a xs ∧ Sq b2 K H b ys ∧ xs[i]? = some x ∧ ys[i]? = some y,
    fun i H v H' => ∃ T x y, v = .ref T ∧ H T = none ∧ H' = upd H T (.tup [x, y]) ∧ (∀ xs, Sq b1 K H a xs → xs[i]? = some x) ∧ ∀ ys, Sq b2 K H b ys → ys[i]? = some y,
    fun i H => ∃ xs ys : List V, Sq b1 K H a xs ∧ Sq b2 K H b ys ∧ i ≤ xs.length ∧ i ≤ ys.length ∧ (xs.length ≤ i ∨ ys.length ≤ i)⟩
theorem turn_zipS {P : Program} {w : World} {K : PySem.W.Frag} {elts : List Expr} {kk : Nat} {tpos : Pos} (b1 b2 : Bool) {a b z TI TO i1 i2 : Addr} (D : ZipSep2 z TI TO i1 i2 [i1, a] [i2, b]) :
    Turn P w K (.Tuple elts kk tpos) (ItzS b1 b2 K a b) [z, TI, TO, i1, i2] z (fun i h => IsZip h z TI TO .none ∧ IsPair h TI (.ref i1) (.ref i2) ∧ (∃ x y, IsPair h TO x y) ∧ ItOf b1 h i1 a i ∧ ItOf b2 h i2 b i) where
  mem := by simp
  obj := fun i h st c hc => by
    obtain ⟨hz, hTI, ⟨x, y, hTO⟩, h1, h2⟩ := st
    have e' : c = z ∨ c = TI ∨ c = TO ∨ c = i1 ∨ c = i2 := by simpa using hc
    rcases e' with q | q | q | q | q
    · rw [q]; exact ⟨_, hz, fun v q => nomatch q⟩
    · rw [q]; exact ⟨_, hTI, fun v q => nomatch q⟩
    · rw [q]; exact ⟨_, hTO, fun v q => nomatch q⟩
    · rw [q]; exact h1.obj
    · rw [q]; exact h2.obj
  keep := fun i h h' st k => by
    obtain ⟨hz, hTI, ⟨x, y, hTO⟩, h1, h2⟩ := st
    exact ⟨k z (by simp) _ hz, k TI (by simp) _ hTI, ⟨x, y, k TO (by simp) _ hTO⟩, h1.at fun o q => k i1 (by simp) o q, h2.at fun o q => k i2 (by simp) o q⟩
  item := by
    intro X hP hw hK hc i pins s σ H E I hf st hg
    subst hP hw hK
    obtain ⟨hz, hTI, ⟨x0, y0, hTO⟩, h1, h2⟩ := st
    obtain ⟨xs, ys, x, y, hqx, hqy, hx, hy⟩ := hg
    obtain ⟨its, rv, p, la⟩ := I.src hqx
    obtain ⟨its2, rv2, p2, lb⟩ := I.src hqy
    obtain ⟨u, hu, ru⟩ := rv.get hx
    obtain ⟨u2, hu2, ru2⟩ := rv2.get hy
    have hzl : z < s.heap.objs.size := Heap.lt_size hz
    have hl1 : i < its.toArray.size := by simpa using (List.getElem?_eq_some_iff.mp hu).1
    have hl2 : i < its2.toArray.size := by simpa using (List.getElem?_eq_some_iff.mp hu2).1
    have hin : X.A.in1.handled = none := I.ok.hd hc
    refine wpAny_pyNext_zipD2_item D (drawsOf b1 hin i1 a (p.ne h1) its.toArray) (drawsOf b2 hin i2 b (p2.ne h2) its2.toArray) hz hTI hTO ⟨h1, p⟩ ⟨h2, p2⟩ hl1 hl2 fun w1 w2 h' tk e1 e2 z' TO' st1 st2 hT hsz hk => ?_
    have ew1 : w1 = u := by
      have g1 : its.toArray[i]? = some w1 := e1
      have g2 : its.toArray[i]? = some u := by simpa using hu
      rw [g1] at g2
      exact Option.some.inj g2
    have ew2 : w2 = u2 := by
      have g1 : its2.toArray[i]? = some w2 := e2
      have g2 : its2.toArray[i]? = some u2 := by simpa using hu2
      rw [g1] at g2
      exact Option.some.inj g2
    subst ew1 ew2
    refine ⟨_, rfl, wpAny_letOwnedTupleGo_zip (s := { s with heap := h', toks := tk }) z' fun h'' z'' sb => ?_⟩
    have hT2 : h''.get? s.heap.objs.size = some { cls := .type "tuple", data := .seq #[w1, w2] } := (sb.2 _ (Nat.ne_of_gt hzl)).trans hT
    have new : ObjOk X.prog X.w (upd H s.heap.objs.size (.tup [x, y])) h'' s.heap.objs.size (.tup [x, y]) :=
      ⟨by show 2 ≤ sizeLine; decide, [w1, w2], .cons ru (.cons ru2 .nil), ⟨_, hT2, rfl, _, rfl⟩⟩
    have I1 : Inv X pins σ (upd H s.heap.objs.size (.tup [x, y])) { s with heap := h'', toks := tk } :=
      I.turnedNew (t' := tk) (ch := [z, TI, TO, i1, i2]) (fun c o hb q => (sb.2 c (fun q' => hb (by simp [q']))).trans (hk c o (fun q' => hb (by simp [q'])) (fun q' => hb (by simp [q'])) (fun q' => hb (by simp [q'])) (fun q' => hb (by simp [q'])) q)) hf (Nat.le_refl _) new
    refine ⟨.ref s.heap.objs.size, _, I1, rfl, ⟨_, x, y, rfl, I.hok.fresh (Nat.le_refl _), rfl, fun l hl => by rw [I.sq_inj hl hqx]; exact hx, fun l hl => by rw [I.sq_inj hl hqy]; exact hy⟩, ⟨z'', ?_, ⟨w1, w2, ?_⟩, ?_, ?_⟩, fun c hcm => ?_⟩
    · exact (sb.2 _ D.TIz).trans (hk _ _ D.TIz D.TITO D.TIi1 D.TIi2 hTI)
    · exact (sb.2 _ D.TOz).trans TO'
    · exact st1.1.at fun o q => (sb.2 _ (Ne.symm D.zi1)).trans q
    · exact st2.1.at fun o q => (sb.2 _ (Ne.symm D.zi2)).trans q
    · have hlt : c < s.heap.objs.size := by
        have e' : c = z ∨ c = TI ∨ c = TO ∨ c = i1 ∨ c = i2 := by simpa using hcm
        rcases e' with q | q | q | q | q
        · rw [q]; exact hzl
        · rw [q]; exact Heap.lt_size hTI
        · rw [q]; exact Heap.lt_size hTO
        · rw [q]; obtain ⟨_, e1, _⟩ := h1.obj; exact Heap.lt_size e1
        · rw [q]; obtain ⟨_, e2, _⟩ := h2.obj; exact Heap.lt_size e2
      rw [upd_ne (Nat.ne_of_lt hlt)]
      exact (hf c hcm).1
  done := by
    intro X hP hw hK hc i pins s σ H E I hf st hg
    subst hP hw hK
    obtain ⟨hz, hTI, ⟨x0, y0, hTO⟩, h1, h2⟩ := st
    obtain ⟨xs, ys, hqx, hqy, le1, le2, hend⟩ := hg
    obtain ⟨its, rv, p, _⟩ := I.src hqx
    obtain ⟨its2, rv2, p2, _⟩ := I.src hqy
    have l1 := rv.length
    have l2 := rv2.length
    have hin : X.A.in1.handled = none := I.ok.hd hc
    refine wpAny_pyNext_zipD2_end D (drawsOf b1 hin i1 a (p.ne h1) its.toArray) (drawsOf b2 hin i2 b (p2.ne h2) its2.toArray) hz hTI hTO ⟨h1, p⟩ ⟨h2, p2⟩ (by simp; omega) (by simp; omega) (by simp; omega) fun h' tk hk => ⟨rfl, ?_⟩
    exact I.turnedL (t' := tk) (ch := [z, TI, TO, i1, i2]) (fun c o hb q => hk c o (fun q' => hb (by simp [q'])) (fun q' => hb (by simp [q'])) (fun q' => hb (by simp [q'])) (fun q' => hb (by simp [q'])) q) hf
  self := fun A i s Q E st h => wpAny_pyIter_zip st.1 h
theorem begins_src (b : Bool) (a : Addr) (items : Array Value) : ∃ o, Begins (.ref a) o (fun h => SrcOf b h a items) ∧ ∀ (h : Heap) (it : Addr), h.get? it = some o → ItOf b h it a 0 := by
  cases b with
  | true => exact ⟨_, begins_list a items, fun h it e => ⟨_, e, rfl, rfl⟩⟩
  | false => exact ⟨_, begins_tuple a items, fun h it e => ⟨_, e, rfl, rfl⟩⟩
def iZipS (K : PySem.W.Frag) (ta : TA) : TI := fun σ H R => ta σ H fun vs H1 => ∃ a b, vs = [.ref a, .ref b] ∧ ∃ b1 b2 xs ys, Sq b1 K H1 a xs ∧ Sq b2 K H1 b ys ∧ R (ItzS b1 b2 K a b) H1
theorem pi_zipS {X : Cx} {e e2 : Expr} {ta : TA} {p pos tpos : Pos} {elts : List Expr} {kk : Nat} (hg : Gl X "zip") (hm : X.mg "zip" = none) (ha : PA X [e, e2] ta)
    (hs : starEach [e, e2] X.env = (false, eval e X.env) :: starEach [e2] X.env := by rfl) (hpl : (backTo pos (starEach [e2] X.env)).any (·.1) = false := by rfl) :
    PI X (.Tuple elts kk tpos) (.Call (.Name "zip" p) [e, e2] [] pos) (iZipS X.K ta) := by
  refine ⟨fun pins s σ H R I h => ?_⟩
  refine Call_ (ld_blt I hg hm PyProof.Rows.boot_zip (PyProof.Rows.callWith_type1 (thn (ha.run pos pins s σ H _ I h) fun us s1 ⟨vs, H1, I1, r1, q1⟩ => ?_) hs hpl))
  obtain ⟨a, b, ex, b1, b2, xs, ys, hqx, hqy, q⟩ := q1
  subst ex
  cases r1 with
  | cons r rr =>
    cases rr with
    | cons r' rr =>
      cases rr
      cases r
      cases r'
      obtain ⟨its, rv, p1, la⟩ := I1.src hqx
      obtain ⟨its2, rv2, p2, lb⟩ := I1.src hqy
      obtain ⟨o1, B1, k1⟩ := begins_src b1 a its.toArray
      obtain ⟨o2, B2, k2⟩ := begins_src b2 b its2.toArray
      refine zip_begins2 B1 B2 p1 p2 fun h' hz hTI hTO g1 g2 hsz hk => wpAny_pyIter_zip hz ?_
      have I2 : Inv X pins σ H1 { s1 with heap := h' } := I1.kept (t' := s1.toks) hk
      refine ⟨s1.heap.objs.size + 4, [s1.heap.objs.size + 4, s1.heap.objs.size + 2, s1.heap.objs.size + 3, s1.heap.objs.size, s1.heap.objs.size + 1], _, _, H1, rfl, I2,
        turn_zipS b1 b2 (zip_sep2 (N := s1.heap.objs.size) (fp1 := [a]) (fp2 := [b]) (fun c hc => by rw [List.mem_singleton.mp hc]; exact la) (fun c hc => by rw [List.mem_singleton.mp hc]; exact lb)), ⟨hz, hTI, ⟨_, _, hTO⟩, k1 _ _ g1, k2 _ _ g2⟩, fun c hcm => ?_, q⟩
      have e' : c = s1.heap.objs.size + 4 ∨ c = s1.heap.objs.size + 2 ∨ c = s1.heap.objs.size + 3 ∨ c = s1.heap.objs.size ∨ c = s1.heap.objs.size + 1 := by simpa using hcm
      have hle : s1.heap.objs.size ≤ c := by
        rcases e' with z | z | z | z | z
        · rw [z]; exact Nat.le_add_right _ _
        · rw [z]; exact Nat.le_add_right _ _
        · rw [z]; exact Nat.le_add_right _ _
        · rw [z]; exact Nat.le_refl _
        · rw [z]; exact Nat.le_add_right _ _
      exact I1.fpOk hle (I1.hok.fresh hle)
theorem walk_zipS {b1 b2 : Bool} {K : PySem.W.Frag} {a b : Addr} {xs ys : List V} (hn : xs.length = ys.length) : Walk (ItzS b1 b2 K a b) xs.length (fun H => Sq b1 K H a xs ∧ Sq b2 K H b ys) (YPair (fun i => xs[i]?) (fun i => ys[i]?)) := by
  refine ⟨fun i _ hi q => ?_, fun _ q => ⟨xs, ys, q.1, q.2, Nat.le_refl _, by omega, .inl (Nat.le_refl _)⟩, fun i H v H' _ q y => ?_⟩
  · exact ⟨xs, ys, xs[i], ys[i], q.1, q.2, by simp [hi], by simp [show i < ys.length by omega]⟩
  · obtain ⟨T, x, z, h1, h2, h3, h4, h5⟩ := y
    exact ⟨T, x, z, h1, h2, h3, h4 xs q.1, h5 ys q.2⟩
section
variable {K : PySem.W.Frag} {σ : St} {H : Hp} {t : TS} {D : Ends} {g : TG} {f bk ct : St → Hp → Prop} {rt : VK}
theorem w_iZipS {ta : TA} {R : It → Hp → Prop} (q : ta σ H fun vs H1 => ∃ a b, vs = [.ref a, .ref b] ∧ ∃ b1 b2 xs ys, Sq b1 K H1 a xs ∧ Sq b2 K H1 b ys ∧ R (ItzS b1 b2 K a b) H1) : iZipS K ta σ H R := q
theorem l_zip {b1 b2 : Bool} {a b : Addr} (xs ys : List V) (hn : xs.length = ys.length) (Pv : Nat → St → Hp → Prop) (hx : Sq b1 K H a xs) (hy : Sq b2 K H b ys) (h0 : Pv 0 σ H) (hG : ∀ i σ H, i ≤ xs.length → Pv i σ H → Sq b1 K H a xs ∧ Sq b2 K H b ys)
    (hs : ∀ (i : Nat) x y (T : Addr) σ' H', i < xs.length → xs[i]? = some x → ys[i]? = some y → Pv i σ' H' → H' T = none → g (.ref T) σ' (upd H' T (.tup [x, y])) fun σ2 H2 => t ⟨Pv (i + 1), rt, f, Pv (i + 1)⟩ σ2 H2) (hd : ∀ σ' H', Pv xs.length σ' H' → f σ' H') :
    ∃ a' b', [V.ref a, V.ref b] = [.ref a', .ref b'] ∧ ∃ b1 b2 xs ys, Sq b1 K H a' xs ∧ Sq b2 K H b' ys ∧ LoopOk (ItzS b1 b2 K a' b') g t ⟨f, rt, bk, ct⟩ σ H := by
  refine ⟨a, b, rfl, b1, b2, xs, ys, hx, hy, l_it (walk_zipS hn) Pv h0 hG (fun i x σ' H1 H2 hi hp hy => ?_) hd⟩
  obtain ⟨T, u, v, rfl, hT, e, hu, hv⟩ := hy
  subst e
  exact hs i u v T σ' _ hi hu hv hp hT
end

/-! ### list comprehensions -/
/-- what a comprehension asks of its walk J -/
def CompOk (J : It) (g : TG) (tt : TT) (te : TE) (vs : List Nat) (σ : St) (H1 : Hp) (Q : VK) : Prop := ∀ D, H1 D = none → ∃ W : Nat → Nat → Hp → Prop, (∃ m, W 0 m (upd H1 D (.lst []))) ∧ ∀ i m H, W i m H →
  (J.stop i H ∧ Q (.ref D) H) ∨ (J.go i H ∧ ∃ Nx : Hp → Prop, (∀ H', Nx H' → ∃ m', m' < m ∧ W (i + 1) m' H') ∧ ∀ x H', J.yld i H x H' → g x (wipe σ vs) H' fun σ2 H2 => wipe σ2 vs = wipe σ vs ∧ tt σ2 H2 fun b H3 =>
    if b = true then te σ2 H3 fun y H4 => ∃ acc, H4 D = some (.lst acc) ∧ acc.length < sizeLine ∧ Nx (upd H4 D (.lst (acc ++ [y]))) else Nx H3)
/-- the heap without what stands at D -/
def hide (D : Addr) (H : Hp) : Hp := fun b => if b = D then none else H b
theorem hide_at (D : Addr) (H : Hp) : hide D H D = none := if_pos rfl
theorem hide_ne {D b : Addr} {H : Hp} (h : b ≠ D) : hide D H b = H b := if_neg h
theorem hide_same (D : Addr) (H : Hp) : Same (hide D H) H := fun b o e => by
  by_cases h : b = D
  · subst h; rw [hide_at] at e; cases e
  · rw [hide_ne h] at e; exact e
theorem same_hide {D : Addr} {H H' : Hp} (e : Same H H') (h : H D = none) : Same H (hide D H') := fun b o q => by
  rw [hide_ne (ne_of_none q h)]
  exact e b o q
theorem hide_upd (D : Addr) (H : Hp) (o : HO) : hide D (upd H D o) = hide D H := by
  funext b
  by_cases h : b = D
  · subst h; rw [hide_at, hide_at]
  · rw [hide_ne h, hide_ne h, upd_ne h]
theorem hide_mono {D : Addr} {H H' : Hp} (e : Same H H') : Same (hide D H) (hide D H') := fun b o q => by
  by_cases h : b = D
  · subst h; rw [hide_at] at q; cases q
  · rw [hide_ne h] at q ⊢; exact e b o q
/-- no tuple, nothing frozen -/
def NTup : Option HO → Prop
  | some (.tup _) => False
  | some (.frz _ _) => False
  | _ => True
theorem NTup.lst {H : Hp} {D : Addr} {acc : List V} (h : H D = some (.lst acc)) : NTup (H D) := by rw [h]; trivial
theorem NTup.ins {H : Hp} {D C dx : Addr} {fs : List (Str × V)} (h : H D = some (.ins C dx fs)) : NTup (H D) := by rw [h]; trivial
theorem sq_hide {K : PySem.W.Frag} {D p : Addr} {H : Hp} {xs : List V} (hD : NTup (H D)) (h : Sq false K H p xs) : Sq false K (hide D H) p xs := by
  have h : SqT K H p xs := h
  rcases h with (h | ⟨o, h⟩) | h
  · exact .inl (.inl (by rw [hide_ne (fun e => by rw [← e, h] at hD; exact hD)]; exact h))
  · exact .inl (.inr ⟨o, by rw [hide_ne (fun e => by rw [← e, h] at hD; exact hD)]; exact h⟩)
  · exact .inr h
section
variable {K : PySem.W.Frag} {σ : St} {H : Hp} {tt : TT} {te : TE} {g : TG} {vs : List Nat} {Q : VK}
theorem w_lc {wi : TI} (q : wi σ H fun J H1 => CompOk J g tt te vs σ H1 Q) : tLc wi g tt te vs σ H Q := q
/-- every turn gives one item: R of the turn, the item and the heap without the new list -/
theorem l_comp {J : It} {n : Nat} {G : Hp → Prop} {Y : Nat → Hp → V → Hp → Prop} (w : Walk J n G Y) (hz : n < sizeLine) (R : Nat → V → Hp → Prop) (hR : ∀ i y H1 H2, Same H1 H2 → R i y H1 → R i y H2) (hG : ∀ H', Same H H' → G H')
    (hY : ∀ i x H1 H2, i < n → Y i H1 x H2 → Same H1 H2)
    (hs : ∀ i x H1 H2 D acc (N : VK), i < n → Same H H1 → H D = none → H1 D = some (.lst acc) → Y i H1 x H2 → Same H1 H2 → (∀ y H4, Same H2 H4 → R i y (hide D H4) → N y H4) → g x (wipe σ vs) H2 fun σ2 H3 => wipe σ2 vs = wipe σ vs ∧ te σ2 H3 N)
    (k : ∀ D H' ys, H D = none → Same H H' → H' D = some (.lst ys) → ys.length = n → (∀ (i : Nat) y, ys[i]? = some y → R i y (hide D H')) → Q (.ref D) H') : CompOk J g tYes te vs σ H Q := by
  intro D hD
  refine lc_it w (fun i H' => ∃ ys, H' D = some (.lst ys) ∧ ys.length = i ∧ Same H H' ∧ ∀ (j : Nat) y, ys[j]? = some y → R j y (hide D H')) ?_ (fun i H' _ ⟨ys, _, _, sm, _⟩ => hG H' sm) ?_ ?_
  · exact ⟨[], upd_same, rfl, Same.new hD, fun j y e => by simp at e⟩
  · rintro i x H1 H2 hi ⟨ys, e1, e2, sm, hr⟩ hy
    have s12 := hY i x H1 H2 hi hy
    refine hs i x H1 H2 D ys _ hi sm hD e1 hy s12 fun y H4 s24 r4 => ?_
    have e4 : H4 D = some (.lst ys) := s24 _ _ (s12 _ _ e1)
    refine ⟨ys, e4, by omega, ys ++ [y], upd_same, by rw [List.length_append, e2]; rfl, Same.mut ((sm.trans s12).trans s24) hD, fun j z ez => ?_⟩
    rw [hide_upd]
    by_cases hj : j < ys.length
    · rw [List.getElem?_append_left hj] at ez
      exact hR _ _ _ _ (hide_mono (s12.trans s24)) (hr j z ez)
    · have hlen := (List.getElem?_eq_some_iff.mp ez).1
      rw [List.length_append] at hlen
      have ej : j = ys.length := by
        have : j < ys.length + 1 := hlen
        omega
      subst ej
      rw [List.getElem?_append_right (Nat.le_refl _), Nat.sub_self] at ez
      have ey : y = z := Option.some.inj ez
      subst ey
      rw [e2]
      exact r4
  · rintro H' ⟨ys, e1, e2, sm, hr⟩
    exact k D H' ys hD sm e1 e2 hr
/-- over a list or a tuple -/
theorem l_compS {b : Bool} {a : Addr} {j : Nat} (xs : List V) (hx : Sq b K H a xs) (hz : xs.length < sizeLine) (R : Nat → V → Hp → Prop) (hR : ∀ i y H1 H2, Same H1 H2 → R i y H1 → R i y H2)
    (hw : ∀ x : V, wipe ((wipe σ vs).set j (some x)) vs = wipe σ vs)
    (hs : ∀ (i : Nat) x H1 D acc (N : VK), i < xs.length → xs[i]? = some x → Same H H1 → H D = none → H1 D = some (.lst acc) → (∀ y H4, Same H1 H4 → R i y (hide D H4) → N y H4) → te ((wipe σ vs).set j (some x)) H1 N)
    (k : ∀ D H' ys, H D = none → Same H H' → H' D = some (.lst ys) → ys.length = xs.length → (∀ (i : Nat) y, ys[i]? = some y → R i y (hide D H')) → Q (.ref D) H') :
    ∃ a', V.ref a = .ref a' ∧ ((∃ xs, SqL K H a' xs) ∧ CompOk (Itl K a') (gName j) tYes te vs σ H Q ∨ (∃ xs, SqT K H a' xs) ∧ CompOk (Itt K a') (gName j) tYes te vs σ H Q) := by
  refine ⟨a, rfl, ?_⟩
  cases b with
  | true =>
    refine .inl ⟨⟨xs, hx⟩, l_comp (walk_list (xs := xs)) hz R hR (fun H' sm => sm.sq (b := true) hx) (fun i x H1 H2 hi hy => by rw [hy.1]; exact Same.refl _) (fun i x H1 H2 D acc N hi sm hD e1 hy s12 hN => ?_) k⟩
    obtain ⟨e, ex⟩ := hy
    subst e
    exact ⟨hw x, hs i x _ D acc N hi ex sm hD e1 hN⟩
  | false =>
    refine .inr ⟨⟨xs, hx⟩, l_comp (walk_tup (xs := xs)) hz R hR (fun H' sm => sm.sq (b := false) hx) (fun i x H1 H2 hi hy => by rw [hy.1]; exact Same.refl _) (fun i x H1 H2 D acc N hi sm hD e1 hy s12 hN => ?_) k⟩
    obtain ⟨e, ex⟩ := hy
    subst e
    exact ⟨hw x, hs i x _ D acc N hi ex sm hD e1 hN⟩
/-- over range(n) -/
theorem l_compR {n : Int} {j : Nat} (h1 : -(2 ^ 62) ≤ n) (h2 : n < 16000000) (R : Nat → V → Hp → Prop) (hR : ∀ i y H1 H2, Same H1 H2 → R i y H1 → R i y H2)
    (hw : ∀ x : V, wipe ((wipe σ vs).set j (some x)) vs = wipe σ vs)
    (hs : ∀ (i : Nat) H1 D acc (N : VK), (i : Int) < n → Same H H1 → H D = none → H1 D = some (.lst acc) → (∀ y H4, Same H1 H4 → R i y (hide D H4) → N y H4) → te ((wipe σ vs).set j (some (.int (i : Int)))) H1 N)
    (k : ∀ D H' ys, H D = none → Same H H' → H' D = some (.lst ys) → ys.length = n.toNat → (∀ (i : Nat) y, ys[i]? = some y → R i y (hide D H')) → Q (.ref D) H') :
    ∃ j' : Int, [V.int n] = [.int j'] ∧ -(2 ^ 62) ≤ j' ∧ j' < 2 ^ 62 ∧ CompOk (Itr 0 j'.toNat) (gName j) tYes te vs σ H Q := by
  refine ⟨n, rfl, h1, by omega, l_comp (walk_range (lo := 0) (n := n.toNat)) (by rw [sizeLine_eq]; omega) R hR (fun _ _ => trivial) (fun i x H1 H2 hi hy => by rw [hy.1]; exact Same.refl _) (fun i x H1 H2 D acc N hi sm hD e1 hy s12 hN => ?_) k⟩
  obtain ⟨e, ex⟩ := hy
  subst e ex
  show wipe ((wipe σ vs).set j (some (.int (0 + (i : Int))))) vs = wipe σ vs ∧ te ((wipe σ vs).set j (some (.int (0 + (i : Int))))) _ N
  rw [Int.zero_add]
  exact ⟨hw _, hs i _ D acc N (by omega) sm hD e1 hN⟩
/-- over zip of two -/
theorem l_compZ {b1 b2 : Bool} {a b : Addr} {i1 i2 nn : Nat} (xs ys : List V) (hn : xs.length = ys.length) (hx : Sq b1 K H a xs) (hy : Sq b2 K H b ys) (hz : xs.length < sizeLine) (R : Nat → V → Hp → Prop) (hR : ∀ i y H1 H2, Same H1 H2 → R i y H1 → R i y H2) (hnn : nn = 2)
    (hw : ∀ x y : V, wipe (((wipe σ vs).set i1 (some x)).set i2 (some y)) vs = wipe σ vs)
    (hs : ∀ (i : Nat) x y H1 D acc (N : VK), i < xs.length → xs[i]? = some x → ys[i]? = some y → Same H H1 → H D = none → H1 D = some (.lst acc) → (∀ y H4, Same H1 H4 → R i y (hide D H4) → N y H4) → te (((wipe σ vs).set i1 (some x)).set i2 (some y)) H1 N)
    (k : ∀ D H' ys, H D = none → Same H H' → H' D = some (.lst ys) → ys.length = xs.length → (∀ (i : Nat) y, ys[i]? = some y → R i y (hide D H')) → Q (.ref D) H') :
    ∃ a' b', [V.ref a, V.ref b] = [.ref a', .ref b'] ∧ ∃ b1 b2 xs ys, Sq b1 K H a' xs ∧ Sq b2 K H b' ys ∧ CompOk (ItzS b1 b2 K a' b') (gTup K nn (gCons (gName i1) (gCons (gName i2) gNil))) tYes te vs σ H Q := by
  subst hnn
  refine ⟨a, b, rfl, b1, b2, xs, ys, hx, hy, l_comp (walk_zipS hn) hz R hR (fun H' sm => ⟨sm.sq hx, sm.sq hy⟩) (fun i x H1 H2 hi hy => ?_) (fun i x H1 H2 D acc N hi sm hD e1 hy s12 hN => ?_) k⟩
  · obtain ⟨T, u, v, rfl, hT, e, hu, hv⟩ := hy
    subst e
    exact Same.new hT
  · obtain ⟨T, u, v, rfl, hT, e, hu, hv⟩ := hy
    subst e
    exact w_pair (Sq.tup upd_same) ⟨hw u v, hs i u v _ D acc N hi hu hv (sm.trans s12) hD (s12 _ _ e1) hN⟩
end
end L2

namespace L2
open PySem PySem.Spec PyProof.Rows
/-! ### data over the heap: relations that new objects leave as they are -/
abbrev Rep (α : Type) := Hp → V → α → Prop
def RMono {α : Type} (R : Rep α) : Prop := ∀ H H' v x, Same H H' → R H v x → R H' v x
/-- no list in it: what stands at a list may be left out -/
def RTup {α : Type} (R : Rep α) : Prop := ∀ H D v x, NTup (H D) → R H v x → R (hide D H) v x
def RLst {α : Type} (R : Rep α) : Prop := ∀ H D v x ys, H D = some (.lst ys) → R H v x → R (hide D H) v x
theorem RTup.lst {α : Type} {R : Rep α} (h : RTup R) : RLst R := fun H D v x _ e r => h H D v x (NTup.lst e) r
def RInt : Rep Int := fun _ v i => v = .int i
/-- numbers in a list (true) or a tuple (false) -/
def RVec (b : Bool) (K : PySem.W.Frag) : Rep (List Int) := fun H v ns => ∃ a, v = .ref a ∧ Sq b K H a (ns.map V.int)
def RSeq (b : Bool) (K : PySem.W.Frag) {α : Type} (R : Rep α) : Rep (List α) := fun H v xs => ∃ a vs, v = .ref a ∧ Sq b K H a vs ∧ vs.length = xs.length ∧ ∀ (i : Nat) y x, vs[i]? = some y → xs[i]? = some x → R H y x
def RPair (K : PySem.W.Frag) {α β : Type} (R : Rep α) (S : Rep β) : Rep (α × β) := fun H v p => ∃ a x y, v = .ref a ∧ Sq false K H a [x, y] ∧ R H x p.1 ∧ S H y p.2
section
variable {K : PySem.W.Frag} {α β : Type} {R : Rep α} {S : Rep β} {b : Bool}
theorem RInt.mono : RMono RInt := fun _ _ _ _ _ h => h
theorem RInt.tup : RTup RInt := fun _ _ _ _ _ h => h
theorem RVec.mono : RMono (RVec b K) := fun _ _ _ _ s ⟨a, e, h⟩ => ⟨a, e, s.sq h⟩
theorem RVec.tup : RTup (RVec false K) := fun _ _ _ _ hD ⟨a, e, h⟩ => ⟨a, e, sq_hide hD h⟩
theorem RSeq.mono (hR : RMono R) : RMono (RSeq b K R) := fun _ _ _ _ s ⟨a, vs, e, h, hl, q⟩ => ⟨a, vs, e, s.sq h, hl, fun i y x h1 h2 => hR _ _ _ _ s (q i y x h1 h2)⟩
theorem RSeq.tup (hR : RTup R) : RTup (RSeq false K R) := fun _ _ _ _ hD ⟨a, vs, e, h, hl, q⟩ => ⟨a, vs, e, sq_hide hD h, hl, fun i y x h1 h2 => hR _ _ _ _ hD (q i y x h1 h2)⟩
theorem RPair.mono (hR : RMono R) (hS : RMono S) : RMono (RPair K R S) := fun _ _ _ _ s ⟨a, x, y, e, h, h1, h2⟩ => ⟨a, x, y, e, s.sq h, hR _ _ _ _ s h1, hS _ _ _ _ s h2⟩
theorem RPair.tup (hR : RTup R) (hS : RTup S) : RTup (RPair K R S) := fun _ _ _ _ hD ⟨a, x, y, e, h, h1, h2⟩ => ⟨a, x, y, e, sq_hide hD h, hR _ _ _ _ hD h1, hS _ _ _ _ hD h2⟩
theorem RSeq.get {H : Hp} {vs : List V} {xs : List α} (hl : vs.length = xs.length) (q : ∀ (i : Nat) y x, vs[i]? = some y → xs[i]? = some x → R H y x) {i : Nat} {x : α} (h : xs[i]? = some x) : ∃ y, vs[i]? = some y ∧ R H y x := by
  have hi := (List.getElem?_eq_some_iff.mp h).1
  exact ⟨vs[i], List.getElem?_eq_getElem (by omega), q i _ x (List.getElem?_eq_getElem (by omega)) h⟩
theorem vec_at {ns : List Int} {i : Nat} {y : V} (h : (ns.map V.int)[i]? = some y) : y = .int (nth ns (i : Nat)) ∧ i < ns.length := by
  have hi := (List.getElem?_eq_some_iff.mp h).1
  rw [List.length_map] at hi
  rw [List.getElem?_map, List.getElem?_eq_getElem hi] at h
  refine ⟨?_, hi⟩
  rw [← Option.some.inj h, nth_nat, List.getD_eq_getElem?_getD, List.getElem?_eq_getElem hi]
  rfl
theorem vec_get {ns : List Int} {i : Nat} (hi : i < ns.length) : (ns.map V.int)[i]? = some (.int (nth ns (i : Nat))) := by
  rw [List.getElem?_map, List.getElem?_eq_getElem hi, nth_nat, List.getD_eq_getElem?_getD, List.getElem?_eq_getElem hi]
  rfl
theorem vec_of {ys : List V} {ns : List Int} (hl : ys.length = ns.length) (h : ∀ (i : Nat) y, ys[i]? = some y → y = .int (nth ns (i : Nat))) : ys = ns.map V.int := by
  refine List.ext_getElem? fun i => ?_
  by_cases hi : i < ys.length
  · rw [vec_get (by omega), List.getElem?_eq_getElem hi]
    exact congrArg some (h i _ (List.getElem?_eq_getElem hi))
  · rw [List.getElem?_eq_none (by omega), List.getElem?_eq_none (by rw [List.length_map]; omega)]
end
section
variable {K : PySem.W.Frag} {σ : St} {H : Hp} {te : TE} {vs : List Nat} {Q : VK} {b b1 b2 : Bool} {a a1 a2 : Addr} {j : Nat}
/-- a comprehension that gives numbers -/
theorem c_ints (xs : List V) (hx : Sq b K H a xs) (ms : List Int) (hl : ms.length = xs.length) (hz : xs.length < sizeLine) (hw : ∀ x : V, wipe ((wipe σ vs).set j (some x)) vs = wipe σ vs)
    (hs : ∀ (i : Nat) x H1 (N : VK), i < xs.length → xs[i]? = some x → Same H H1 → (∀ H4, Same H1 H4 → N (.int (nth ms (i : Nat))) H4) → te ((wipe σ vs).set j (some x)) H1 N)
    (k : ∀ D H', H D = none → Same H H' → H' D = some (.lst (ms.map V.int)) → Q (.ref D) H') :
    ∃ a', V.ref a = .ref a' ∧ ((∃ xs, SqL K H a' xs) ∧ CompOk (Itl K a') (gName j) tYes te vs σ H Q ∨ (∃ xs, SqT K H a' xs) ∧ CompOk (Itt K a') (gName j) tYes te vs σ H Q) :=
  l_compS xs hx hz (fun i y _ => y = .int (nth ms (i : Nat))) (fun _ _ _ _ _ h => h) hw (fun i x H1 D acc N hi hxi sm hD e1 hN => hs i x H1 N hi hxi sm fun H4 s4 => hN _ H4 s4 rfl)
    (fun D H' ys hD sm e hly hr => k D H' hD sm (by rw [e, vec_of (by omega) hr]))
theorem c_intsR {n : Int} (h1 : -(2 ^ 62) ≤ n) (h2 : n < 16000000) (ms : List Int) (hl : ms.length = n.toNat) (hw : ∀ x : V, wipe ((wipe σ vs).set j (some x)) vs = wipe σ vs)
    (hs : ∀ (i : Nat) H1 (N : VK), (i : Int) < n → Same H H1 → (∀ H4, Same H1 H4 → N (.int (nth ms (i : Nat))) H4) → te ((wipe σ vs).set j (some (.int (i : Int)))) H1 N)
    (k : ∀ D H', H D = none → Same H H' → H' D = some (.lst (ms.map V.int)) → Q (.ref D) H') :
    ∃ j' : Int, [V.int n] = [.int j'] ∧ -(2 ^ 62) ≤ j' ∧ j' < 2 ^ 62 ∧ CompOk (Itr 0 j'.toNat) (gName j) tYes te vs σ H Q :=
  l_compR h1 h2 (fun i y _ => y = .int (nth ms (i : Nat))) (fun _ _ _ _ _ h => h) hw (fun i H1 D acc N hi sm hD e1 hN => hs i H1 N hi sm fun H4 s4 => hN _ H4 s4 rfl)
    (fun D H' ys hD sm e hly hr => k D H' hD sm (by rw [e, vec_of (by omega) hr]))
theorem c_intsZ {i1 i2 nn : Nat} (xs ys : List V) (hn : xs.length = ys.length) (hx : Sq b1 K H a1 xs) (hy : Sq b2 K H a2 ys) (ms : List Int) (hl : ms.length = xs.length) (hz : xs.length < sizeLine) (hnn : nn = 2)
    (hw : ∀ x y : V, wipe (((wipe σ vs).set i1 (some x)).set i2 (some y)) vs = wipe σ vs)
    (hs : ∀ (i : Nat) x y H1 (N : VK), i < xs.length → xs[i]? = some x → ys[i]? = some y → Same H H1 → (∀ H4, Same H1 H4 → N (.int (nth ms (i : Nat))) H4) → te (((wipe σ vs).set i1 (some x)).set i2 (some y)) H1 N)
    (k : ∀ D H', H D = none → Same H H' → H' D = some (.lst (ms.map V.int)) → Q (.ref D) H') :
    ∃ a' b', [V.ref a1, V.ref a2] = [.ref a', .ref b'] ∧ ∃ b1 b2 xs ys, Sq b1 K H a' xs ∧ Sq b2 K H b' ys ∧ CompOk (ItzS b1 b2 K a' b') (gTup K nn (gCons (gName i1) (gCons (gName i2) gNil))) tYes te vs σ H Q :=
  l_compZ xs ys hn hx hy hz (fun i y _ => y = .int (nth ms (i : Nat))) (fun _ _ _ _ _ h => h) hnn hw (fun i x y H1 D acc N hi hxi hyi sm hD e1 hN => hs i x y H1 N hi hxi hyi sm fun H4 s4 => hN _ H4 s4 rfl)
    (fun D H' zs hD sm e hly hr => k D H' hD sm (by rw [e, vec_of (by omega) hr]))
/-- a comprehension that gives data without the new list in them -/
theorem c_repL {α : Type} {R : Rep α} (hm : RMono R) (ht : RLst R) (xs : List V) (hx : Sq b K H a xs) (ds : List α) (hl : ds.length = xs.length) (hz : xs.length < sizeLine) (hw : ∀ x : V, wipe ((wipe σ vs).set j (some x)) vs = wipe σ vs)
    (hs : ∀ (i : Nat) x d H1 (N : VK), i < xs.length → xs[i]? = some x → ds[i]? = some d → Same H H1 → (∀ y H4, Same H1 H4 → R H4 y d → N y H4) → te ((wipe σ vs).set j (some x)) H1 N)
    (k : ∀ D H' ys, H D = none → Same H H' → H' D = some (.lst ys) → ys.length = ds.length → (∀ (i : Nat) y d, ys[i]? = some y → ds[i]? = some d → R H' y d) → Q (.ref D) H') :
    ∃ a', V.ref a = .ref a' ∧ ((∃ xs, SqL K H a' xs) ∧ CompOk (Itl K a') (gName j) tYes te vs σ H Q ∨ (∃ xs, SqT K H a' xs) ∧ CompOk (Itt K a') (gName j) tYes te vs σ H Q) :=
  l_compS xs hx hz (fun i y H' => ∀ d, ds[i]? = some d → R H' y d) (fun _ _ _ _ s h d hd => hm _ _ _ _ s (h d hd)) hw
    (fun i x H1 D acc N hi hxi sm hD e1 hN => by
      obtain ⟨d, hd⟩ : ∃ d, ds[i]? = some d := ⟨ds[i]'(by omega), List.getElem?_eq_getElem (by omega)⟩
      refine hs i x d H1 N hi hxi hd sm fun y H4 s4 r4 => hN y H4 s4 fun d' hd' => ?_
      rw [hd] at hd'
      cases hd'
      exact ht _ D _ _ _ (s4 _ _ e1) r4)
    (fun D H' ys hD sm e hly hr => k D H' ys hD sm e (by omega) fun i y d h1 h2 => hm _ _ _ _ (hide_same D H') (hr i y h1 d h2))
/-- a comprehension that gives data without lists -/
theorem c_rep {α : Type} {R : Rep α} (hm : RMono R) (ht : RTup R) (xs : List V) (hx : Sq b K H a xs) (ds : List α) (hl : ds.length = xs.length) (hz : xs.length < sizeLine) (hw : ∀ x : V, wipe ((wipe σ vs).set j (some x)) vs = wipe σ vs)
    (hs : ∀ (i : Nat) x d H1 (N : VK), i < xs.length → xs[i]? = some x → ds[i]? = some d → Same H H1 → (∀ y H4, Same H1 H4 → R H4 y d → N y H4) → te ((wipe σ vs).set j (some x)) H1 N)
    (k : ∀ D H' ys, H D = none → Same H H' → H' D = some (.lst ys) → ys.length = ds.length → (∀ (i : Nat) y d, ys[i]? = some y → ds[i]? = some d → R H' y d) → Q (.ref D) H') :
    ∃ a', V.ref a = .ref a' ∧ ((∃ xs, SqL K H a' xs) ∧ CompOk (Itl K a') (gName j) tYes te vs σ H Q ∨ (∃ xs, SqT K H a' xs) ∧ CompOk (Itt K a') (gName j) tYes te vs σ H Q) :=
  c_repL hm ht.lst xs hx ds hl hz hw hs k
theorem c_repR {α : Type} {R : Rep α} {n : Int} (hm : RMono R) (ht : RTup R) (h1 : -(2 ^ 62) ≤ n) (h2 : n < 16000000) (ds : List α) (hl : ds.length = n.toNat) (hw : ∀ x : V, wipe ((wipe σ vs).set j (some x)) vs = wipe σ vs)
    (hs : ∀ (i : Nat) d H1 (N : VK), (i : Int) < n → ds[i]? = some d → Same H H1 → (∀ y H4, Same H1 H4 → R H4 y d → N y H4) → te ((wipe σ vs).set j (some (.int (i : Int)))) H1 N)
    (k : ∀ D H' ys, H D = none → Same H H' → H' D = some (.lst ys) → ys.length = ds.length → (∀ (i : Nat) y d, ys[i]? = some y → ds[i]? = some d → R H' y d) → Q (.ref D) H') :
    ∃ j' : Int, [V.int n] = [.int j'] ∧ -(2 ^ 62) ≤ j' ∧ j' < 2 ^ 62 ∧ CompOk (Itr 0 j'.toNat) (gName j) tYes te vs σ H Q :=
  l_compR h1 h2 (fun i y H' => ∀ d, ds[i]? = some d → R H' y d) (fun _ _ _ _ s h d hd => hm _ _ _ _ s (h d hd)) hw
    (fun i H1 D acc N hi sm hD e1 hN => by
      obtain ⟨d, hd⟩ : ∃ d, ds[i]? = some d := ⟨ds[i]'(by omega), List.getElem?_eq_getElem (by omega)⟩
      refine hs i d H1 N hi hd sm fun y H4 s4 r4 => hN y H4 s4 fun d' hd' => ?_
      rw [hd] at hd'
      cases hd'
      exact ht _ D _ _ (NTup.lst (s4 _ _ e1)) r4)
    (fun D H' ys hD sm e hly hr => k D H' ys hD sm e (by omega) fun i y d h1 h2 => hm _ _ _ _ (hide_same D H') (hr i y h1 d h2))
/-- the same data twice -/
theorem RInt.sm {n : Nat} {x y : V} {i : Int} (h1 : RInt H x i) (h2 : RInt H y i) : Sm K H n x y := by
  cases h1
  cases h2
  exact Sm.int
theorem RSeq.sm {α : Type} {R S : Rep α} {n : Nat} {x y : V} {ds : List α} (hz : ds.length ≤ 100000) (hRS : ∀ x y d, d ∈ ds → R H x d → S H y d → Sm K H n x y) (h1 : RSeq false K R H x ds) (h2 : RSeq b K S H y ds) : Sm K H (n + 1) x y := by
  obtain ⟨a, xs, rfl, hx, hxl, hxr⟩ := h1
  obtain ⟨a', ys, rfl, hy, hyl, hyr⟩ := h2
  refine .inr ⟨a, a', b, xs, ys, rfl, rfl, hx, hy, by omega, by omega, fun i x' y' e1 e2 => ?_⟩
  have hi := (List.getElem?_eq_some_iff.mp e1).1
  have hd : ds[i]? = some (ds[i]'(by omega)) := List.getElem?_eq_getElem (by omega)
  exact hRS _ _ _ (List.mem_of_getElem? hd) (hxr i _ _ e1 hd) (hyr i _ _ e2 hd)
theorem RVec.sm {n : Nat} {x y : V} {ns : List Int} (hz : ns.length ≤ 100000) (h1 : RVec false K H x ns) (h2 : RVec b K H y ns) : Sm K H (n + 1) x y := by
  obtain ⟨a, rfl, hx⟩ := h1
  obtain ⟨a', rfl, hy⟩ := h2
  refine .inr ⟨a, a', b, _, _, rfl, rfl, hx, hy, rfl, by rw [List.length_map]; exact hz, fun i x' y' e1 e2 => ?_⟩
  rw [(vec_at e1).1, (vec_at e2).1]
  exact Sm.int
theorem RPair.sm {α β : Type} {R R' : Rep α} {S S' : Rep β} {n : Nat} {x y : V} {p : α × β} (hR : ∀ x y, R H x p.1 → R' H y p.1 → Sm K H n x y) (hS : ∀ x y, S H x p.2 → S' H y p.2 → Sm K H n x y) (h1 : RPair K R S H x p) (h2 : RPair K R' S' H y p) : Sm K H (n + 1) x y := by
  obtain ⟨a, x1, x2, rfl, hx, r1, r2⟩ := h1
  obtain ⟨a', y1, y2, rfl, hy, q1, q2⟩ := h2
  refine .inr ⟨a, a', false, _, _, rfl, rfl, hx, hy, rfl, by show 2 ≤ 100000; omega, fun i x' y' e1 e2 => ?_⟩
  match i, e1, e2 with
  | 0, e1, e2 => cases e1; cases e2; exact hR _ _ r1 q1
  | 1, e1, e2 => cases e1; cases e2; exact hS _ _ r2 q2
  | i + 2, e1, _ => simp at e1
end
/-! ### fields of objects -/
section
variable {K : PySem.W.Frag} {σ : St} {H : Hp} {v : V} {Q : VK} {ta : TE} {D : Ends}
theorem lk_here {f : Str} {v : V} {r : List (Str × V)} : List.lookup f ((f, v) :: r) = some v := by simp [List.lookup]
theorem lk_next {f g : Str} {v : V} {r : List (Str × V)} {o : Option V} (h : (f == g) = false) (q : List.lookup f r = o) : List.lookup f ((g, v) :: r) = o := by
  rw [List.lookup, h]; exact q
theorem pf_here {f : Str} {v u : V} {r : List (Str × V)} : putF f v ((f, u) :: r) = (f, v) :: r := by
  show (if f = f then _ else _) = _
  rw [if_pos rfl]
theorem pf_next {f g : Str} {v u : V} {r r' : List (Str × V)} (h : (g == f) = false) (q : putF f v r = r') : putF f v ((g, u) :: r) = (g, u) :: r' := by
  have hne : ¬ g = f := fun e => by rw [e] at h; simp at h
  show (if g = f then _ else (g, u) :: putF f v r) = _
  rw [if_neg hne, q]
theorem pf_nil {f : Str} {v : V} : putF f v [] = [(f, v)] := rfl
theorem w_fld {f : Str} (q : ta σ H fun x H1 => ∃ a C dx fs v, x = .ref a ∧ H1 a = some (.ins C dx fs) ∧ Cls K C ∧ NoAttr K C f ∧ fs.lookup f = some v ∧ Q v H1) : tFld K ta f σ H Q := q
theorem w_fldAt {f : Str} {p C dx : Addr} {fs : List (Str × V)} (h : H p = some (.ins C dx fs)) (c : Cls K C) (n : NoAttr K C f) (l : fs.lookup f = some v) {F : V → Prop} (q : F v) :
    ∃ a C dx fs v, V.ref p = .ref a ∧ H a = some (.ins C dx fs) ∧ Cls K C ∧ NoAttr K C f ∧ fs.lookup f = some v ∧ F v := ⟨p, C, dx, fs, v, rfl, h, c, n, l, q⟩
theorem w_sfld {f : Str} {tv : TE} {nx b' c' : St → Hp → Prop} {rt : VK} (q : tv σ H fun y H1 => ta σ H1 fun x H2 => ∃ a C dx fs, x = .ref a ∧ H2 a = some (.ins C dx fs) ∧ Cls K C ∧ NoAttr K C f ∧ fs.length < 1000 ∧ nx σ (upd H2 a (.ins C dx (putF f y fs)))) : sFld K ta tv f ⟨nx, rt, b', c'⟩ σ H := q
theorem w_sfldAt {f : Str} {p C dx : Addr} {fs fs' : List (Str × V)} {y : V} (h : H p = some (.ins C dx fs)) (c : Cls K C) (n : NoAttr K C f) (hl : fs.length < 1000) (e : putF f y fs = fs') {F : Hp → Prop} (q : F (upd H p (.ins C dx fs'))) :
    ∃ a C dx fs, V.ref p = .ref a ∧ H a = some (.ins C dx fs) ∧ Cls K C ∧ NoAttr K C f ∧ fs.length < 1000 ∧ F (upd H a (.ins C dx (putF f y fs))) := ⟨p, C, dx, fs, rfl, h, c, n, hl, by rw [e]; exact q⟩
theorem w_meth {C : Addr} {m : Str} {sp : Sp} {dvs : List V} {E : XK} {t : TA} (q : ta σ H fun x H1 => ∃ a dx fs, x = .ref a ∧ H1 a = some (.ins C dx fs) ∧ fs.lookup m = none ∧ t σ H1 fun vs H2 => sp (x :: (vs ++ dvs)) H2 Q E) : tMeth C m sp dvs E ta t σ H Q := q
theorem w_methAt {m : Str} {p C dx : Addr} {fs : List (Str × V)} {B : Prop} (h : H p = some (.ins C dx fs)) (l : fs.lookup m = none) (q : B) : ∃ a dx fs, V.ref p = .ref a ∧ H a = some (.ins C dx fs) ∧ fs.lookup m = none ∧ B := ⟨p, dx, fs, rfl, h, l, q⟩
theorem w_make {C : Addr} {sp : Sp} {dvs : List V} {E : XK} {t : TA} (q : t σ H fun vs H1 => ∀ x dx, H1 x = none → H1 dx = none → dx ≠ x → sp (.ref x :: (vs ++ dvs)) (upd (upd H1 dx (.own x)) x (.ins C dx [])) (fun v H2 => v = .non ∧ Q (.ref x) H2) E) : tMake C sp dvs E t σ H Q := q
theorem w_notInS {neg : Bool} {x : V} {p : Addr} {xs : List V} {b : Bool} (h : Sq b K H p xs) (hx : flatV x = true) (ha : xs.all flatV = true) (q : Q (.bl (if neg then !inV x xs else inV x xs)) H) : rIn K neg x (.ref p) H Q := ⟨p, xs, rfl, h.or, hx, ha, q⟩
theorem w_chain {r r' : R2} {tb tc : TE} (q : ta σ H fun x H1 => tb σ H1 fun y H2 => r x y H2 fun z H3 => ∃ k, z = .bl k ∧ if k = true then tc σ H3 fun w H4 => r' y w H4 Q else Q (.bl false) H3) : tChain r r' ta tb tc σ H Q := q
end
end L2

namespace L2
open PySem PySem.Spec PyProof.Rows
theorem RTup.upd {α : Type} {R : Rep α} (ht : RTup R) (hm : RMono R) {H : Hp} {D : Addr} {o : HO} {v : V} {x : α} (hD : NTup (H D)) (h : R H v x) : R (L2.upd H D o) v x := by
  have h1 := ht _ _ _ _ hD h
  rw [← hide_upd D H o] at h1
  exact hm _ _ _ _ (hide_same D _) h1
/-- a list that a loop fills: at D, its items relate to the data without the list itself -/
structure Filled {α : Type} (R : Rep α) (H0 H : Hp) (D : Addr) (ds : List α) : Prop where
  new : H0 D = none
  same : Same H0 H
  at_ : ∃ ys, H D = some (.lst ys) ∧ ys.length = ds.length ∧ ∀ (i : Nat) y d, ys[i]? = some y → ds[i]? = some d → R (hide D H) y d
theorem Filled.nil {α : Type} {R : Rep α} {H : Hp} {D : Addr} (h : H D = none) : Filled R H (L2.upd H D (.lst [])) D [] :=
  ⟨h, Same.new h, [], upd_same, rfl, fun i y d e => by simp at e⟩
theorem Filled.mono {α : Type} {R : Rep α} (hm : RMono R) {H0 H H' : Hp} {D : Addr} {ds : List α} (f : Filled R H0 H D ds) (s : Same H H') : Filled R H0 H' D ds := by
  obtain ⟨ys, e, hl, hr⟩ := f.at_
  exact ⟨f.new, f.same.trans s, ys, s _ _ e, hl, fun i y d h1 h2 => hm _ _ _ _ (hide_mono s) (hr i y d h1 h2)⟩
theorem Filled.push {α : Type} {R : Rep α} {H0 H : Hp} {D : Addr} {ds : List α} {d : α} {y : V} (f : Filled R H0 H D ds) (hy : R (hide D H) y d) : ∃ ys, H D = some (.lst ys) ∧ ys.length = ds.length ∧ Filled R H0 (L2.upd H D (.lst (ys ++ [y]))) D (ds ++ [d]) := by
  obtain ⟨ys, e, hl, hr⟩ := f.at_
  refine ⟨ys, e, hl, f.new, Same.mut f.same f.new, ys ++ [y], upd_same, by simp [hl], fun i y' d' h1 h2 => ?_⟩
  rw [hide_upd]
  by_cases hi : i < ys.length
  · rw [List.getElem?_append_left hi] at h1
    rw [List.getElem?_append_left (by omega)] at h2
    exact hr i y' d' h1 h2
  · have h3 := (List.getElem?_eq_some_iff.mp h1).1
    rw [List.length_append] at h3
    have ei : i = ys.length := by
      have : i < ys.length + 1 := h3
      omega
    subst ei
    rw [List.getElem?_append_right (Nat.le_refl _), Nat.sub_self] at h1
    rw [hl, List.getElem?_append_right (Nat.le_refl _), Nat.sub_self] at h2
    cases h1
    cases h2
    exact hy
theorem Filled.seq {α : Type} {R : Rep α} (hm : RMono R) {K : PySem.W.Frag} {H0 H : Hp} {D : Addr} {ds : List α} (f : Filled R H0 H D ds) : RSeq true K R H (.ref D) ds := by
  obtain ⟨ys, e, hl, hr⟩ := f.at_
  exact ⟨D, ys, rfl, Sq.lst e, hl, fun i y d h1 h2 => hm _ _ _ _ (hide_same D H) (hr i y d h1 h2)⟩
section
variable {K : PySem.W.Frag} {σ : St} {H : Hp} {N : St → Hp → Prop}
theorem w_pairG {i : Nat} {g : TG} {a : Addr} {x y : V} (h : Sq false K H a [x, y]) (q : g y (σ.set i (some x)) H N) : gTup K 2 (gCons (gName i) (gCons g gNil)) (.ref a) σ H N :=
  ⟨a, [x, y], rfl, h, rfl, x, [y], rfl, y, [], rfl, (by
    have : (fun σ' H' => gNil [] σ' H' N) = N := by
      funext σ' H'
      exact propext ⟨fun h => h.2, fun h => ⟨rfl, h⟩⟩
    rw [this]; exact q)⟩
theorem w_trip {i j k : Nat} {a : Addr} {x y z : V} (h : Sq false K H a [x, y, z]) (q : N (((σ.set i (some x)).set j (some y)).set k (some z)) H) : gTup K 3 (gCons (gName i) (gCons (gName j) (gCons (gName k) gNil))) (.ref a) σ H N :=
  ⟨a, [x, y, z], rfl, h, rfl, x, [y, z], rfl, y, [z], rfl, z, [], rfl, rfl, q⟩
theorem w_five {i1 i2 i3 i4 i5 : Nat} {a : Addr} {x1 x2 x3 x4 x5 : V} (h : Sq false K H a [x1, x2, x3, x4, x5]) (q : N (((((σ.set i1 (some x1)).set i2 (some x2)).set i3 (some x3)).set i4 (some x4)).set i5 (some x5)) H) :
    gTup K 5 (gCons (gName i1) (gCons (gName i2) (gCons (gName i3) (gCons (gName i4) (gCons (gName i5) gNil))))) (.ref a) σ H N :=
  ⟨a, [x1, x2, x3, x4, x5], rfl, h, rfl, x1, [x2, x3, x4, x5], rfl, x2, [x3, x4, x5], rfl, x3, [x4, x5], rfl, x4, [x5], rfl, x5, [], rfl, rfl, q⟩
theorem RSeq.five {α : Type} {R : Rep α} {v : V} {d0 d1 d2 d3 d4 : α} (h : RSeq false K R H v [d0, d1, d2, d3, d4]) : ∃ a x0 x1 x2 x3 x4, v = .ref a ∧ Sq false K H a [x0, x1, x2, x3, x4] ∧ R H x0 d0 ∧ R H x1 d1 ∧ R H x2 d2 ∧ R H x3 d3 ∧ R H x4 d4 := by
  obtain ⟨a, vs, e, hs, hl, hr⟩ := h
  match vs, hl with
  | [x0, x1, x2, x3, x4], _ => exact ⟨a, x0, x1, x2, x3, x4, e, hs, hr 0 _ _ rfl rfl, hr 1 _ _ rfl rfl, hr 2 _ _ rfl rfl, hr 3 _ _ rfl rfl, hr 4 _ _ rfl rfl⟩
theorem RSeq.lt {α : Type} {R : Rep α} {b : Bool} {v : V} {ds : List α} (h : RSeq b K R H v ds) : ∃ a vs, v = .ref a ∧ Sq b K H a vs ∧ vs.length = ds.length ∧ ∀ (i : Nat) y x, vs[i]? = some y → ds[i]? = some x → R H y x := h
/-- cuts of lists -/
theorem cutV_fromto {xs : List V} {a b : Nat} (h : a ≤ b) (hb : b ≤ xs.length) : cutV xs (some (a : Int)) (some (b : Int)) = (xs.drop a).take (b - a) := by
  unfold cutV
  rw [HT.sIx_nat, HT.sIx_nat, Nat.min_eq_left hb, Nat.min_eq_left (Nat.le_trans h hb)]
theorem cutV_upto {xs : List V} {b : Nat} (hb : b ≤ xs.length) : cutV xs none (some (b : Int)) = xs.take b := by
  unfold cutV
  rw [HT.sIx_none, HT.sIx_nat, Nat.min_eq_left hb, List.drop_zero, Nat.sub_zero]
theorem cutV_from {xs : List V} {a : Nat} (ha : a ≤ xs.length) : cutV xs (some (a : Int)) none = xs.drop a := by
  unfold cutV
  rw [HT.sIx_none, HT.sIx_nat, Nat.min_eq_left ha, List.take_of_length_le (by rw [List.length_drop]; omega)]
theorem w_slC {a : Addr} {xs ys : List V} {lo hi : Option Int} {Q : VK} (h : Sq true K H a xs) (e : cutV xs lo hi = ys) (q : ∀ p, H p = none → Q (.ref p) (L2.upd H p (.lst ys))) : rSlG K (.ref a) lo hi H Q :=
  .inl ⟨a, xs, rfl, h, fun p hp => by rw [e]; exact q p hp⟩
theorem cutV_int {xs : List V} {a b : Int} (h0 : 0 ≤ a) (h : a ≤ b) (hb : b ≤ xs.length) : cutV xs (some a) (some b) = (xs.drop a.toNat).take (b.toNat - a.toNat) := by
  obtain ⟨n, rfl⟩ := Int.eq_ofNat_of_zero_le h0
  obtain ⟨m, rfl⟩ := Int.eq_ofNat_of_zero_le (Int.le_trans h0 h)
  rw [Int.toNat_natCast, Int.toNat_natCast]
  exact cutV_fromto (by omega) (by omega)
theorem cutV_intTo {xs : List V} {b : Int} (h0 : 0 ≤ b) (hb : b ≤ xs.length) : cutV xs none (some b) = xs.take b.toNat := by
  obtain ⟨m, rfl⟩ := Int.eq_ofNat_of_zero_le h0
  rw [Int.toNat_natCast]
  exact cutV_upto (by omega)
/-- a cut of a list or of a tuple -/
theorem w_slAny {b : Bool} {a : Addr} {xs ys : List V} {lo hi : Option Int} {Q : VK} (h : Sq b K H a xs) (e : cutV xs lo hi = ys) (q : ∀ p H', Same H H' → Sq b K H' p ys → Q (.ref p) H') : rSlG K (.ref a) lo hi H Q := by
  cases b with
  | true => exact .inl ⟨a, xs, rfl, h, fun p hp => q _ _ (Same.new hp) (Sq.lst (by rw [upd_same, e]))⟩
  | false =>
    refine .inr ⟨a, xs, rfl, h, fun hw => ?_, fun _ p hp => q _ _ (Same.new hp) (Sq.tup (by rw [upd_same, e]))⟩
    have e2 : xs = ys := by
      rw [← e]
      unfold cutV
      rw [hw.1, hw.2, List.drop_zero, Nat.sub_zero, List.take_length]
    exact q _ _ (Same.refl _) (e2 ▸ h)
theorem rep_cut {α : Type} {R : Rep α} {vs : List V} {xs : List α} (hr : ∀ (i : Nat) y x, vs[i]? = some y → xs[i]? = some x → R H y x) (a n : Nat) : ∀ (i : Nat) y x, ((vs.drop a).take n)[i]? = some y → ((xs.drop a).take n)[i]? = some x → R H y x := fun i y x h1 h2 => by
  rw [List.getElem?_take] at h1 h2
  split at h1
  · rw [if_pos (by assumption), List.getElem?_drop] at h2
    rw [List.getElem?_drop] at h1
    exact hr _ _ _ h1 h2
  · cases h1
theorem rep_to {α : Type} {R : Rep α} {vs : List V} {xs : List α} (hr : ∀ (i : Nat) y x, vs[i]? = some y → xs[i]? = some x → R H y x) (n : Nat) : ∀ (i : Nat) y x, (vs.take n)[i]? = some y → (xs.take n)[i]? = some x → R H y x := rep_cut hr 0 n
/-- adding two lists -/
theorem w_catLL {l b : Addr} {xs zs : List V} {Q : VK} (h1 : H l = some (.lst xs)) (h2 : H b = some (.lst zs)) (hz : xs.length + zs.length ≤ sizeLine) (q : ∀ p, H p = none → Q (.ref p) (L2.upd H p (.lst (xs ++ zs)))) : rAddG K (.ref l) (.ref b) H Q :=
  .inr (.inr ⟨l, b, xs, zs, rfl, rfl, h1, h2, hz, q⟩)
end
end L2

namespace L2
open PySem PySem.Spec PyProof.Rows
/-! ### data without lists, equal to itself -/
mutual
theorem eqv_refl : ∀ d : PyData, d.canLay0 = true → PyData.eqv d d = true
  | .none, _ => by simp only [PyData.eqv]
  | .bool b, _ => by simp only [PyData.eqv, beq_self_eq_true]
  | .int i, _ => by simp only [PyData.eqv, beq_self_eq_true]
  | .str x, _ => by simp only [PyData.eqv, beq_self_eq_true]
  | .list xs, h => by
    simp only [PyData.eqv]
    exact eqvAll_refl xs (by simpa only [PyData.canLay0] using h)
  | .tuple xs, h => by
    simp only [PyData.eqv]
    exact eqvAll_refl xs (by simpa only [PyData.canLay0] using h)
  | .dict _, h => by simp only [PyData.canLay0] at h; cases h
theorem eqvAll_refl : ∀ ds : List PyData, PyData.canLayAll0 ds = true → PyData.eqvAll ds ds = true
  | [], _ => by simp only [PyData.eqvAll]
  | d :: r, h => by
    simp only [PyData.canLayAll0, Bool.and_eq_true] at h
    simp only [PyData.eqvAll, eqv_refl d h.1, eqvAll_refl r h.2, Bool.and_self]
end
/-- data of a kind: as PyData, laid, no deeper than n -/
structure Dat {α : Type} (K : PySem.W.Frag) (R : Rep α) (f : α → PyData) (n : Nat) : Prop where
  dp : ∀ H v d, R H v d → Dp K H v (f d)
  lay : ∀ d, (f d).canLay0 = true
  deep : ∀ d, (f d).depth ≤ n
theorem canLayAll_map {α : Type} {f : α → PyData} (h : ∀ d, (f d).canLay0 = true) : ∀ ds : List α, PyData.canLayAll0 (ds.map f) = true
  | [] => by simp only [List.map_nil, PyData.canLayAll0]
  | d :: r => by simp only [List.map_cons, PyData.canLayAll0, h d, canLayAll_map h r, Bool.and_self]
theorem depthAll_map {α : Type} {f : α → PyData} {n : Nat} (h : ∀ d, (f d).depth ≤ n) : ∀ ds : List α, PyData.depthAll (ds.map f) ≤ n
  | [] => by simp only [List.map_nil, PyData.depthAll]; exact Nat.zero_le _
  | d :: r => by
    simp only [List.map_cons, PyData.depthAll]
    exact Nat.max_le.mpr ⟨h d, depthAll_map h r⟩
theorem dpAll_map {α : Type} {K : PySem.W.Frag} {R : Rep α} {f : α → PyData} {H : Hp} (h : ∀ v d, R H v d → Dp K H v (f d)) : ∀ {vs : List V} {ds : List α}, vs.length = ds.length → (∀ (i : Nat) y x, vs[i]? = some y → ds[i]? = some x → R H y x) → DpAll K H vs (ds.map f)
  | [], [], _, _ => .nil
  | v :: vs, d :: ds, hl, hr => .cons (h v d (hr 0 v d rfl rfl)) (dpAll_map h (by simpa using hl) fun i y x h1 h2 => hr (i + 1) y x (by simpa using h1) (by simpa using h2))
theorem Dat.seq {α : Type} {K : PySem.W.Frag} {R : Rep α} {f : α → PyData} {n : Nat} (h : Dat K R f n) : Dat K (RSeq false K R) (fun ds => .tuple (ds.map f)) (n + 1) where
  dp := fun H v ds ⟨a, vs, e, hs, hl, hr⟩ => by subst e; exact .tup hs (dpAll_map (h.dp H) hl hr)
  lay := fun ds => by simp only [PyData.canLay0]; exact canLayAll_map h.lay ds
  deep := fun ds => by simp only [PyData.depth]; exact Nat.succ_le_succ (depthAll_map h.deep ds)
theorem Dat.vec {K : PySem.W.Frag} : Dat K (RVec false K) (fun ns => .tuple (ns.map PyData.int)) 1 where
  dp := fun H v ns ⟨a, e, hs⟩ => by subst e; exact .tup hs dpAll_ints
  lay := fun ns => by simp only [PyData.canLay0]; exact canLay_ints ns
  deep := fun ns => by simp only [PyData.depth, depth_ints]; exact Nat.le_refl _
theorem Dat.pair {α β : Type} {K : PySem.W.Frag} {R : Rep α} {S : Rep β} {f : α → PyData} {g : β → PyData} {n : Nat} (h : Dat K R f n) (h' : Dat K S g n) : Dat K (RPair K R S) (fun p => .tuple [f p.1, g p.2]) (n + 1) where
  dp := fun H v p ⟨a, x, y, e, hs, h1, h2⟩ => by subst e; exact .tup hs (.cons (h.dp _ _ _ h1) (.cons (h'.dp _ _ _ h2) .nil))
  lay := fun p => by simp only [PyData.canLay0, PyData.canLayAll0, h.lay, h'.lay, Bool.and_self]
  deep := fun p => by
    simp only [PyData.depth, PyData.depthAll]
    exact Nat.succ_le_succ (Nat.max_le.mpr ⟨h.deep _, Nat.max_le.mpr ⟨h'.deep _, Nat.zero_le _⟩⟩)
theorem Dat.up {α : Type} {K : PySem.W.Frag} {R : Rep α} {f : α → PyData} {n m : Nat} (h : Dat K R f n) (hm : n ≤ m) : Dat K R f m := ⟨h.dp, h.lay, fun d => Nat.le_trans (h.deep d) hm⟩
theorem Dat.shaped {α : Type} {K : PySem.W.Frag} {R : Rep α} {f : α → PyData} {n : Nat} (h : Dat K R f n) (hn : n ≤ 64) (d : α) : SeqAt.shaped (f d) = true := by
  unfold SeqAt.shaped
  rw [h.lay, decide_eq_true (Nat.le_trans (h.deep d) hn)]
  rfl
theorem w_neSame {α : Type} {K : PySem.W.Frag} {H : Hp} {Q : VK} {R : Rep α} {f : α → PyData} {n : Nat} (h : Dat K R f n) (hn : n ≤ 64) {x y : V} {d : α} (hx : R H x d) (hy : R H y d) (q : Q (.bl false) H) : rNeG K x y H Q :=
  w_neD (h.dp _ _ _ hx) (h.dp _ _ _ hy) (h.shaped hn d) (h.shaped hn d) (by rw [eqv_refl _ (h.lay d)]; exact q)
theorem w_eqSame {α : Type} {K : PySem.W.Frag} {H : Hp} {Q : VK} {R : Rep α} {f : α → PyData} {n : Nat} (h : Dat K R f n) (hn : n ≤ 64) {x y : V} {d : α} (hx : R H x d) (hy : R H y d) (q : Q (.bl true) H) : rEqG K x y H Q :=
  w_eqD (h.dp _ _ _ hx) (h.dp _ _ _ hy) (h.shaped hn d) (h.shaped hn d) (by rw [eqv_refl _ (h.lay d)]; exact q)
theorem sIx_neg (n d : Nat) : HT.sIx n d (some (-1)) = n - 1 := by
  show (if (-1 : Int) < 0 then ((-1 : Int) + (n : Int)).toNat else min (-1 : Int).toNat n) = n - 1
  rw [if_pos (by decide)]
  omega
theorem cutV_neg {xs : List V} : cutV xs none (some (-1)) = xs.take (xs.length - 1) := by
  unfold cutV
  rw [HT.sIx_none, sIx_neg, List.drop_zero, Nat.sub_zero]
theorem cutV_negFrom {xs : List V} : cutV xs (some (-1)) none = xs.drop (xs.length - 1) := by
  unfold cutV
  rw [HT.sIx_none, sIx_neg, List.take_of_length_le (by rw [List.length_drop]; omega)]
end L2

namespace L2
open PySem PySem.Spec PyProof.Rows
/-! ### the rules that name the written part, K said (within a comprehension's block it is told by rfl) -/
section
variable {X : Cx} {K : PySem.W.Frag} {a b : Expr} {ta tb : TE} {pos : Pos}
theorem k_addG (h : X.K = K) : OpR X (binaryOp .Add) (rAddG K) := h ▸ op_addG
theorem k_eqG (h : X.K = K) (hu : X.A.units + 64 < cLine) : OpR X (compareOp .Eq) (rEqG K) := h ▸ op_eqG hu
theorem k_neG (h : X.K = K) (hu : X.A.units + 64 < cLine) : OpR X (compareOp .NotEq) (rNeG K) := h ▸ op_neG hu
theorem k_inS (h : X.K = K) : OpR X (compareOp .In) (rIn K false) := h ▸ op_in_seq
theorem k_notInS (h : X.K = K) : OpR X (compareOp .NotIn) (rIn K true) := h ▸ op_notIn_seq
theorem k_slG (h : X.K = K) : SlR X (rSlG K) := h ▸ sl_seqG
theorem k_ix (h : X.K = K) : IxR X (rIx K) := h ▸ ix_seq
theorem k_sumS (h : X.K = K) (hc : X.calm = true) : CallR X (.builtin "sum") (rSumS K) := h ▸ cr_sumS hc
theorem k_lenS (h : X.K = K) : CallR X (.builtin "len") (rLenS K) := h ▸ cr_lenS
theorem k_listS (h : X.K = K) : CallR X (.type "list") (rListS K) := h ▸ cr_listS
theorem k_tupS (h : X.K = K) : CallR X (.type "tuple") (rTupS K) := h ▸ cr_tupS
theorem k_isi (h : X.K = K) : CallR X (.builtin "isinstance") (rIsi K) := h ▸ call_isi
theorem k_max (h : X.K = K) (hc : X.calm = true) : CallR X (.builtin "max") (rMax K) := h ▸ cr_max hc
theorem k_min (h : X.K = K) (hc : X.calm = true) : CallR X (.builtin "min") (rMin K) := h ▸ cr_min hc
theorem k_index (h : X.K = K) : MtR X "list.index" (rIndex K) := h ▸ mt_index
theorem k_tru {e : Expr} {te : TE} (h : X.K = K) (he : PE X e te) (hi : ∀ whole, isTrue e X.env whole = (do let v ← whole; standAt e.pos; holding [v] (truthy v))) : PT X e (tTru K te) := h ▸ pt_tru he hi
theorem k_fld {e : Expr} {f : Str} (h : X.K = K) (he : PE X e ta) (hb : attributeBase e f X.env (eval e X.env) = eval e X.env) : PE X (.Attribute e f pos) (tFld K ta f) := h ▸ pe_fld he hb
theorem k_sfld {o value : Expr} {f : Str} {pos' : Pos} {tv : TE} (h : X.K = K) (ha : PE X o ta) (hv : PE X value tv) (hs : swapsWith value (some (.Attribute o f pos')) pos.line X.env = pure false) : PS X (.Assign [.Attribute o f pos'] value pos) (sFld K ta tv f) := h ▸ ps_fld ha hv hs
theorem k_tup {es : List Expr} {kk : Nat} {t : TGs} {n : Nat} (h : X.K = K) (hc : X.calm = true) (hg : PGs X es t) (hn : (assignEach es X.env).length = n := by rfl) (hst : (assignEach es X.env).findIdx? (·.1) = none := by rfl) :
    PG X (.Tuple es kk pos) (gTup K n t) := h ▸ pg_tup hc hg hn hst
theorem k_seqS {tg l : Expr} {tl : TE} (h : X.K = K) (hl : PE X l tl) : PI X tg l (iSeq K tl) := h ▸ pi_seqS hl
theorem k_enumS {e : Expr} {ta : TA} {p pos tpos : Pos} {elts : List Expr} {kk : Nat} (h : X.K = K) (hg : Gl X "enumerate") (hm : X.mg "enumerate" = none) (ha : PA X [e] ta) (hs : starEach [e] X.env = [(false, eval e X.env)] := by rfl) :
    PI X (.Tuple elts kk tpos) (.Call (.Name "enumerate" p) [e] [] pos) (iEnumS K ta) := h ▸ pi_enumS hg hm ha hs
theorem k_zipS {e e2 : Expr} {ta : TA} {p pos tpos : Pos} {elts : List Expr} {kk : Nat} (h : X.K = K) (hg : Gl X "zip") (hm : X.mg "zip" = none) (ha : PA X [e, e2] ta)
    (hs : starEach [e, e2] X.env = (false, eval e X.env) :: starEach [e2] X.env := by rfl) (hpl : (backTo pos (starEach [e2] X.env)).any (·.1) = false := by rfl) :
    PI X (.Tuple elts kk tpos) (.Call (.Name "zip" p) [e, e2] [] pos) (iZipS K ta) := h ▸ pi_zipS hg hm ha hs hpl
theorem k_bm {o e : Expr} {es : List Expr} {to : TE} {t : TA} {name : Str} {apos cpos : Pos} {T id : String} {r : V → List V → Hp → VK → Prop} (h : X.K = K)
    (pa : PlainAttrs T) (slot : Slot T name id) (hty : typeOf (.builtin id) = pure (.type "method_descriptor")) (hm : MtR X id r) (ho : PE X o to) (ha : PA X (e :: es) t)
    (hbase : attributeBase o name X.env (eval o X.env) = eval o X.env := by rfl)
    (hfew : ((backTo cpos (starEach (e :: es) X.env)).all (fun x => !x.1) && (backToKw cpos (keywordEach [] X.env)).all (fun x => x.1.isSome)
      && decide ((e :: es).length + ([] : List Keyword).length + (if ([] : List Keyword).isEmpty then 0 else 1) < 30)) = true := by rfl)
    (hline : (apos.endLine == cpos.line) = true := by rfl) (hs : starEach (e :: es) X.env = (false, eval e X.env) :: starEach es X.env := by rfl) (hplain : (backTo cpos (starEach es X.env)).any (·.1) = false := by rfl) :
    PE X (.Call (.Attribute o name apos) (e :: es) [] cpos) (tBM K T r to t) := h ▸ pe_bm pa slot hty hm ho ha hbase hfew hline hs hplain
end
end L2

namespace L2
open PySem PySem.Spec PyProof.Rows
/-! ### dicts with texts as keys: read, written, made -/
theorem u1 {n : Nat} (h : n + 64 < cLine) : n + 1 < cLine := by omega
section
variable {K : PySem.W.Frag} {σ : St} {H : Hp} {v : V} {Q : VK} {td ty tv : TE} {a : Addr} {kvs kvs' : List (Key × V)} {s : Str}
theorem w_dget (q : td σ H fun x H1 => ty σ H1 fun y H2 => ∃ a v, x = .ref a ∧ DGet H2 a y (some v) ∧ Q v H2) : tDGet td ty σ H Q := q
theorem w_dgetAt (h : H a = some (.dK kvs)) (l : valV kvs (.inr s) = some v) {F : V → Prop} (q : F v) : ∃ a' v', V.ref a = .ref a' ∧ DGet H a' (.str s) (some v') ∧ F v' := ⟨a, v, rfl, by rw [← l]; exact DGet.k (k := .inr s) h, q⟩
theorem w_dput {nx b' c' : St → Hp → Prop} {rt : VK} (q : tv σ H fun v H1 => td σ H1 fun x H2 => ty σ H2 fun y H3 => ∃ a H4, x = .ref a ∧ DPut H3 a y v H4 ∧ nx σ H4) : sDPut td ty tv ⟨nx, rt, b', c'⟩ σ H := q
theorem w_dputAt (h : H a = some (.dK kvs)) (hl : kvs.length < 1000) (e : putK kvs (.inr s) v = kvs') {F : Hp → Prop} (q : F (upd H a (.dK kvs'))) : ∃ a' H4, V.ref a = .ref a' ∧ DPut H a' (.str s) v H4 ∧ F H4 :=
  ⟨a, _, rfl, DPut.k (k := .inr s) h (by rw [sizeLine_eq]; omega), by rw [e]; exact q⟩
theorem w_disp {trs : List (TE × TE)} (q : ∀ p, H p = none → tPairs trs σ (upd H p (.dK [])) fun ps H2 => H2 p = some (.dK []) ∧ ∃ kvs : List (Key × V), ps = kvs.map (fun kv => (kV kv.1, kv.2)) ∧ kvs.length ≤ 15 ∧ Q (.ref p) (upd H2 p (.dK (mergeK [] kvs)))) : tDisp trs σ H Q := q
theorem w_pair0 {Qp : List (V × V) → Hp → Prop} (q : Qp [] H) : tPairs [] σ H Qp := q
theorem w_pair1 {Qp : List (V × V) → Hp → Prop} {tk tv : TE} {r : List (TE × TE)} (q : tk σ H fun x H1 => tv σ H1 fun y H2 => tPairs r σ H2 fun ps H3 => Qp ((x, y) :: ps) H3) : tPairs ((tk, tv) :: r) σ H Qp := q
end
/-- what stands elsewhere than at t stays -/
def Fr (t : Addr) (H H' : Hp) : Prop := ∀ b o, b ≠ t → H b = some o → H' b = some o
theorem Fr.refl (t : Addr) (H : Hp) : Fr t H H := fun _ _ _ e => e
theorem Fr.trans {t : Addr} {H H' H'' : Hp} (h : Fr t H H') (h' : Fr t H' H'') : Fr t H H'' := fun b o n e => h' b o n (h b o n e)
theorem Fr.upd {t : Addr} {H H' : Hp} (h : Fr t H H') (o : HO) : Fr t H (upd H' t o) := fun b u n e => by
  rw [upd_ne n]
  exact h b u n e
theorem Fr.same {t : Addr} {H H' : Hp} (h : Same H H') : Fr t H H' := fun b o _ e => h b o e
theorem Fr.sq {t : Addr} {H H' : Hp} {b : Bool} {K : PySem.W.Frag} {a : Addr} {xs : List V} (f : Fr t H H') (ht : ∃ kvs, H t = some (.dK kvs)) (h : Sq b K H a xs) : Sq b K H' a xs := by
  obtain ⟨kvs, ht⟩ := ht
  cases b with
  | true =>
    have h : SqL K H a xs := h
    rcases h with (h | ⟨o, h⟩) | h
    · exact .inl (.inl (f _ _ (fun e => by rw [e, ht] at h; cases h) h))
    · exact .inl (.inr ⟨o, f _ _ (fun e => by rw [e, ht] at h; cases h) h⟩)
    · exact .inr h
  | false =>
    have h : SqT K H a xs := h
    rcases h with (h | ⟨o, h⟩) | h
    · exact .inl (.inl (f _ _ (fun e => by rw [e, ht] at h; cases h) h))
    · exact .inl (.inr ⟨o, f _ _ (fun e => by rw [e, ht] at h; cases h) h⟩)
    · exact .inr h
/-- the tape: its cells, place, great number, how many left, seed, turn -/
def tapeF (l : Addr) (at_ gr le se tu : Int) : List (Key × V) := [(.inr "cells", .ref l), (.inr "at", .int at_), (.inr "great", .int gr), (.inr "left", .int le), (.inr "seed", .int se), (.inr "turn", .int tu)]
def IsTape (H : Hp) (t l : Addr) : Prop := ∃ (cs : List Int) (at_ gr le se tu : Int), H t = some (.dK (tapeF l at_ gr le se tu)) ∧ H l = some (.lst (cs.map V.int)) ∧ 0 ≤ at_
theorem IsTape.same {H H' : Hp} {t l : Addr} (s : Same H H') (h : IsTape H t l) : IsTape H' t l := by
  obtain ⟨cs, a, b, c, d, e, h1, h2, h3⟩ := h
  exact ⟨cs, a, b, c, d, e, s _ _ h1, s _ _ h2, h3⟩
theorem IsTape.upd {H : Hp} {t l D : Addr} {o : HO} (h1 : D ≠ t) (h2 : D ≠ l) (h : IsTape H t l) : IsTape (upd H D o) t l := by
  obtain ⟨cs, a, b, c, d, e, g1, g2, g3⟩ := h
  exact ⟨cs, a, b, c, d, e, (upd_ne (Ne.symm h1)).trans g1, (upd_ne (Ne.symm h2)).trans g2, g3⟩
theorem val_neg {j k : Key} {u : V} {kvs : List (Key × V)} (h : ¬ j = k) : valV ((j, u) :: kvs) k = valV kvs k := valV_neg h
theorem val_pos {k : Key} {u : V} {kvs : List (Key × V)} : valV ((k, u) :: kvs) k = some u := valV_pos rfl
theorem tape_cells {l : Addr} {at_ gr le se tu : Int} : valV (tapeF l at_ gr le se tu) (.inr "cells") = some (.ref l) := val_pos
theorem tape_at {l : Addr} {at_ gr le se tu : Int} : valV (tapeF l at_ gr le se tu) (.inr "at") = some (.int at_) := (val_neg (by decide +kernel)).trans val_pos
theorem tape_great {l : Addr} {at_ gr le se tu : Int} : valV (tapeF l at_ gr le se tu) (.inr "great") = some (.int gr) := (val_neg (by decide +kernel)).trans ((val_neg (by decide +kernel)).trans val_pos)
theorem tape_left {l : Addr} {at_ gr le se tu : Int} : valV (tapeF l at_ gr le se tu) (.inr "left") = some (.int le) := (val_neg (by decide +kernel)).trans ((val_neg (by decide +kernel)).trans ((val_neg (by decide +kernel)).trans val_pos))
theorem tape_seed {l : Addr} {at_ gr le se tu : Int} : valV (tapeF l at_ gr le se tu) (.inr "seed") = some (.int se) := (val_neg (by decide +kernel)).trans ((val_neg (by decide +kernel)).trans ((val_neg (by decide +kernel)).trans ((val_neg (by decide +kernel)).trans val_pos)))
theorem tape_turn {l : Addr} {at_ gr le se tu : Int} : valV (tapeF l at_ gr le se tu) (.inr "turn") = some (.int tu) := (val_neg (by decide +kernel)).trans ((val_neg (by decide +kernel)).trans ((val_neg (by decide +kernel)).trans ((val_neg (by decide +kernel)).trans ((val_neg (by decide +kernel)).trans val_pos))))
/-- a store at a key that is there -/
def replK (kvs : List (Key × V)) (k : Key) (v : V) : List (Key × V) := kvs.map fun kv => if kv.1 = k then (kv.1, v) else kv
theorem putK_repl {kvs : List (Key × V)} {k : Key} {v u : V} (h : valV kvs k = some u) : putK kvs k v = replK kvs k v := by
  unfold putK
  rw [valV_any, h]
  rfl
theorem repl_pos {kvs : List (Key × V)} {k : Key} {v u : V} : replK ((k, u) :: kvs) k v = (k, v) :: replK kvs k v := by
  show (if k = k then _ else _) :: _ = _
  rw [if_pos rfl]; rfl
theorem repl_neg {kvs : List (Key × V)} {k j : Key} {v u : V} (h : ¬ j = k) : replK ((j, u) :: kvs) k v = (j, u) :: replK kvs k v := by
  show (if j = k then _ else _) :: _ = _
  rw [if_neg h]; rfl
theorem tape_setAt {l : Addr} {at_ gr le se tu z : Int} : putK (tapeF l at_ gr le se tu) (.inr "at") (.int z) = tapeF l z gr le se tu := by
  rw [putK_repl tape_at]; unfold tapeF
  rw [repl_neg (by decide +kernel), repl_pos, repl_neg (by decide +kernel), repl_neg (by decide +kernel), repl_neg (by decide +kernel), repl_neg (by decide +kernel)]; rfl
theorem tape_setGreat {l : Addr} {at_ gr le se tu z : Int} : putK (tapeF l at_ gr le se tu) (.inr "great") (.int z) = tapeF l at_ z le se tu := by
  rw [putK_repl tape_great]; unfold tapeF
  rw [repl_neg (by decide +kernel), repl_neg (by decide +kernel), repl_pos, repl_neg (by decide +kernel), repl_neg (by decide +kernel), repl_neg (by decide +kernel)]; rfl
theorem tape_setLeft {l : Addr} {at_ gr le se tu z : Int} : putK (tapeF l at_ gr le se tu) (.inr "left") (.int z) = tapeF l at_ gr z se tu := by
  rw [putK_repl tape_left]; unfold tapeF
  rw [repl_neg (by decide +kernel), repl_neg (by decide +kernel), repl_neg (by decide +kernel), repl_pos, repl_neg (by decide +kernel), repl_neg (by decide +kernel)]; rfl
theorem tape_setSeed {l : Addr} {at_ gr le se tu z : Int} : putK (tapeF l at_ gr le se tu) (.inr "seed") (.int z) = tapeF l at_ gr le z tu := by
  rw [putK_repl tape_seed]; unfold tapeF
  rw [repl_neg (by decide +kernel), repl_neg (by decide +kernel), repl_neg (by decide +kernel), repl_neg (by decide +kernel), repl_pos, repl_neg (by decide +kernel)]; rfl
theorem tape_setTurn {l : Addr} {at_ gr le se tu z : Int} : putK (tapeF l at_ gr le se tu) (.inr "turn") (.int z) = tapeF l at_ gr le se z := by
  rw [putK_repl tape_turn]; unfold tapeF
  rw [repl_neg (by decide +kernel), repl_neg (by decide +kernel), repl_neg (by decide +kernel), repl_neg (by decide +kernel), repl_neg (by decide +kernel), repl_pos]; rfl
theorem tape_len {l : Addr} {at_ gr le se tu : Int} : (tapeF l at_ gr le se tu).length < 1000 := by show 6 < 1000; omega
end L2

namespace L2
open PySem PySem.Spec PyProof.Rows
/-! ### o[i] += e in lists; comprehensions with any state, with or without a test -/
def rGetL : V → V → Hp → VK → Prop := fun o i H Q => ∃ p xs k x, o = .ref p ∧ i = .int k ∧ 0 ≤ k ∧ H p = some (.lst xs) ∧ xs[k.toNat]? = some x ∧ Q x H
theorem get_list {X : Cx} : PGet X rGetL := by
  intro pins s σ H o i ov iv Q I ro ri h
  obtain ⟨p, xs, k, x, rfl, rfl, h0, hp, hx, q⟩ := h
  cases ro
  obtain ⟨t, rfl⟩ := ri
  obtain ⟨its, r, pl, hz⟩ := I.list (SqL.of hp)
  obtain ⟨w, ew, rw'⟩ := r.get hx
  have h1 := (List.getElem?_eq_some_iff.mp hx).1
  rw [sizeLine_eq] at hz
  exact wpAny_getItem_list pl.isList h0 (by omega) (by simpa using ew) ⟨x, H, I, rw', q⟩
section
variable {K : PySem.W.Frag} {σ : St} {H : Hp} {tt : TT} {te : TE} {g : TG} {vs : List Nat} {Q : VK}
theorem w_augS {to ti te : TE} {tget : V → V → Hp → VK → Prop} {tip : TIp} {tset : TSet} {nx b' c' : St → Hp → Prop} {rt : VK} (q : to σ H fun o H1 => ti σ H1 fun i H2 => tget o i H2 fun x H3 => te σ H3 fun y H4 => tip x y H4 fun z H5 => tset o i z H5 fun H6 => nx σ H6) : tAugS to ti te tget tip tset ⟨nx, rt, b', c'⟩ σ H := q
theorem w_prop {C : Addr} {sp : Sp} {dvs : List V} {E : XK} {ta : TE} (q : ta σ H fun x H1 => ∃ a dx fs, x = .ref a ∧ H1 a = some (.ins C dx fs) ∧ sp (.ref a :: dvs) H1 Q E) : tProp C sp dvs E ta σ H Q := q
theorem w_propAt {p C dx : Addr} {fs : List (Str × V)} {F : Addr → Prop} (h : H p = some (.ins C dx fs)) (q : F p) : ∃ a dx fs, V.ref p = .ref a ∧ H a = some (.ins C dx fs) ∧ F a := ⟨p, dx, fs, rfl, h, q⟩
theorem w_lstRg {t : L2.St → Hp → (Int → Int → Hp → Prop) → Prop} (q : t σ H fun a b H1 => RgOk a b ∧ ∀ q, H1 q = none → Q (.ref q) (upd H1 q (.lst (rgV a b)))) : tLstRg t σ H Q := q
theorem w_tupRg {t : L2.St → Hp → (Int → Int → Hp → Prop) → Prop} (q : t σ H fun a b H1 => RgOk a b ∧ ∀ q, H1 q = none → Q (.ref q) (upd H1 q (.tup (rgV a b)))) : tTupRg t σ H Q := q
theorem w_rg1 {ta : TE} {QR : Int → Int → Hp → Prop} (q : ta σ H fun x H1 => ∃ n, x = .int n ∧ QR 0 n H1) : tRg1 ta σ H QR := q
theorem w_rg2 {ta tb : TE} {QR : Int → Int → Hp → Prop} (q : ta σ H fun x H1 => tb σ H1 fun y H2 => ∃ i j, x = .int i ∧ y = .int j ∧ QR i j H2) : tRg2 ta tb σ H QR := q
theorem w_getI {p : Addr} {ns : List Int} {k : Int} (h : H p = some (.lst (ns.map V.int))) (h0 : 0 ≤ k) (h1 : k < ns.length) (q : Q (.int (nth ns k)) H) : rGetL (.ref p) (.int k) H Q := by
  refine ⟨p, _, k, .int (nth ns k), rfl, rfl, h0, h, ?_, q⟩
  have e : k = ((k.toNat : Nat) : Int) := (Int.toNat_of_nonneg h0).symm
  rw [vec_get (ns := ns) (i := k.toNat) (by omega), ← e]
theorem l_compG {J : It} {n : Nat} {G : Hp → Prop} {Y : Nat → Hp → V → Hp → Prop} (w : Walk J n G Y) (hz : n < sizeLine) (Sv : Addr → Nat → List V → Hp → Prop) (h0 : ∀ D, H D = none → Sv D 0 [] (upd H D (.lst []))) (hG : ∀ D i acc H', Sv D i acc H' → G H')
    (hs : ∀ i x H1 H2 D acc (NT : VK) (NF : Hp → Prop), i < n → H D = none → Sv D i acc H1 → H1 D = some (.lst acc) → acc.length ≤ i → Y i H1 x H2 → (∀ y H5, H5 D = some (.lst acc) → Sv D (i + 1) (acc ++ [y]) (upd H5 D (.lst (acc ++ [y]))) → NT y H5) →
      (∀ H4, H4 D = some (.lst acc) → Sv D (i + 1) acc H4 → NF H4) → g x (wipe σ vs) H2 fun σ2 H3 => wipe σ2 vs = wipe σ vs ∧ tt σ2 H3 fun b H4 => if b = true then te σ2 H4 NT else NF H4)
    (k : ∀ D H' ys, H D = none → Sv D n ys H' → H' D = some (.lst ys) → ys.length ≤ n → Q (.ref D) H') : CompOk J g tt te vs σ H Q := by
  intro D hD
  refine lc_it w (fun i H' => ∃ acc, H' D = some (.lst acc) ∧ acc.length ≤ i ∧ Sv D i acc H') ⟨[], upd_same, Nat.le_refl _, h0 D hD⟩ (fun i H' _ ⟨acc, _, _, h⟩ => hG D i acc H' h) ?_ ?_
  · rintro i x H1 H2 hi ⟨acc, e, hl, st⟩ hy
    exact hs i x H1 H2 D acc _ _ hi hD st e hl hy (fun y H5 e5 s5 => ⟨acc, e5, Nat.lt_of_le_of_lt hl (Nat.lt_trans hi hz), acc ++ [y], upd_same, by rw [List.length_append, List.length_singleton]; omega, s5⟩) (fun H4 e4 s4 => ⟨acc, e4, by omega, s4⟩)
  · rintro H' ⟨acc, e, hl, st⟩
    exact k D H' acc hD st e hl
/-- for .. in range(n), of any state -/
theorem l_compGR {n : Int} {j : Nat} (h1 : -(2 ^ 62) ≤ n) (h2 : n < 16000000) (Sv : Addr → Nat → List V → Hp → Prop) (hw : ∀ x : V, wipe ((wipe σ vs).set j (some x)) vs = wipe σ vs) (h0 : ∀ D, H D = none → Sv D 0 [] (upd H D (.lst [])))
    (hs : ∀ (i : Nat) H1 D acc (NT : VK) (NF : Hp → Prop), (i : Int) < n → H D = none → Sv D i acc H1 → H1 D = some (.lst acc) → acc.length ≤ i → (∀ y H5, H5 D = some (.lst acc) → Sv D (i + 1) (acc ++ [y]) (upd H5 D (.lst (acc ++ [y]))) → NT y H5) →
      (∀ H4, H4 D = some (.lst acc) → Sv D (i + 1) acc H4 → NF H4) → tt ((wipe σ vs).set j (some (.int (i : Int)))) H1 fun b H4 => if b = true then te ((wipe σ vs).set j (some (.int (i : Int)))) H4 NT else NF H4)
    (k : ∀ D H' ys, H D = none → Sv D n.toNat ys H' → H' D = some (.lst ys) → ys.length ≤ n.toNat → Q (.ref D) H') :
    ∃ j' : Int, [V.int n] = [.int j'] ∧ -(2 ^ 62) ≤ j' ∧ j' < 2 ^ 62 ∧ CompOk (Itr 0 j'.toNat) (gName j) tt te vs σ H Q := by
  refine ⟨n, rfl, h1, by omega, l_compG (walk_range (lo := 0) (n := n.toNat)) (by rw [sizeLine_eq]; omega) Sv h0 (fun _ _ _ _ _ => trivial) (fun i x H1 H2 D acc NT NF hi hD st e1 hl hy hT hF => ?_) k⟩
  obtain ⟨e, ex⟩ := hy
  subst e ex
  show wipe ((wipe σ vs).set j (some (.int (0 + (i : Int))))) vs = wipe σ vs ∧ tt ((wipe σ vs).set j (some (.int (0 + (i : Int))))) _ fun b H4 => if b = true then te ((wipe σ vs).set j (some (.int (0 + (i : Int))))) H4 NT else NF H4
  rw [Int.zero_add]
  exact ⟨hw _, hs i _ D acc NT NF (by omega) hD st e1 hl hT hF⟩
/-- for .. in a list or a tuple, of any state -/
theorem l_compGS {b : Bool} {a : Addr} {j : Nat} (xs : List V) (hz : xs.length < sizeLine) (Sv : Addr → Nat → List V → Hp → Prop) (hx : Sq b K H a xs) (hw : ∀ x : V, wipe ((wipe σ vs).set j (some x)) vs = wipe σ vs) (h0 : ∀ D, H D = none → Sv D 0 [] (upd H D (.lst []))) (hG : ∀ D i acc H', Sv D i acc H' → Sq b K H' a xs)
    (hs : ∀ (i : Nat) x H1 D acc (NT : VK) (NF : Hp → Prop), i < xs.length → xs[i]? = some x → H D = none → Sv D i acc H1 → H1 D = some (.lst acc) → acc.length ≤ i → (∀ y H5, H5 D = some (.lst acc) → Sv D (i + 1) (acc ++ [y]) (upd H5 D (.lst (acc ++ [y]))) → NT y H5) →
      (∀ H4, H4 D = some (.lst acc) → Sv D (i + 1) acc H4 → NF H4) → tt ((wipe σ vs).set j (some x)) H1 fun b H4 => if b = true then te ((wipe σ vs).set j (some x)) H4 NT else NF H4)
    (k : ∀ D H' ys, H D = none → Sv D xs.length ys H' → H' D = some (.lst ys) → ys.length ≤ xs.length → Q (.ref D) H') :
    ∃ a', V.ref a = .ref a' ∧ ((∃ xs, SqL K H a' xs) ∧ CompOk (Itl K a') (gName j) tt te vs σ H Q ∨ (∃ xs, SqT K H a' xs) ∧ CompOk (Itt K a') (gName j) tt te vs σ H Q) := by
  refine ⟨a, rfl, ?_⟩
  cases b with
  | true =>
    refine .inl ⟨⟨xs, hx⟩, l_compG (walk_list (xs := xs)) hz Sv h0 hG (fun i x H1 H2 D acc NT NF hi hD st e1 hl hy hT hF => ?_) k⟩
    obtain ⟨e, ex⟩ := hy
    subst e
    exact ⟨hw _, hs i x _ D acc NT NF hi ex hD st e1 hl hT hF⟩
  | false =>
    refine .inr ⟨⟨xs, hx⟩, l_compG (walk_tup (xs := xs)) hz Sv h0 hG (fun i x H1 H2 D acc NT NF hi hD st e1 hl hy hT hF => ?_) k⟩
    obtain ⟨e, ex⟩ := hy
    subst e
    exact ⟨hw _, hs i x _ D acc NT NF hi ex hD st e1 hl hT hF⟩
end
end L2

namespace PySem.W
open PySem PySem.Calls PyProof.Rows Builtin
/-! ### == and != of instances whose class has its own __eq__ -/
section
variable {prog : Program} {w : World} {A : Around} {E : Value → Shared → Prop} {s : Shared} {K : Frag} {x C L f : Addr} {h₀ : Heap} {m : Str → Option Value} {ox : Obj} {od : Option Obj} {name : Str} {b tb : Value}
theorem ifBound_B {M : Model} {args : List Value} {id : String} {Q : Option Value → Shared → Prop} (X : K.In s.heap) (I : InstAt s.heap x ox C od) (hs : findIn K (.ref C) name = some (some (.builtin id)))
    (hb : ∀ self, bindSpecial (.builtin id) self = pure (.builtin id, [self])) (h : wpAny M A (call (.builtin id) (.ref x :: args)) (fun v => Q (some v)) E s) : wpAny M A (callSpecialIfBound? (.ref x) name args) Q E s := by
  simp only [callSpecialIfBound?, bindSpecialIfBound?]
  refine wpAny_holding (wpAny_bind (wpAny_bind (wpAny_bind (I.type.here ((looks_findIn X hs).here ?_)))))
  refine wpAny_bind (wpAny_askSetting (wpAny_ite ?_))
  have fin : wpAny M A (call (.builtin id) ([.ref x] ++ args) >>= fun v => pure (some v)) Q E s := wpAny_bind (wpAny_mono h (fun v s' h' => wpAny_pure h') fun _ _ h' => h')
  split
  · exact wpAny_bind ((Looks.of_pure (hb _)).here (wpAny_pure (by exact fin)))
  · exact wpAny_tryCatch (wpAny_bind ((Looks.of_pure (hb _)).here (wpAny_pure (by exact fin))))
theorem obj_ne {Q : Value → Shared → Prop} (hu : A.in1.units < cLine) (X : K.In s.heap) (I : InstAt s.heap x ox C od) (hm : mroIn K C (.type "object") = some true) (hs : findIn K (.ref C) "__eq__" = some (some (.ref f))) (hf : isFn K (.ref f) = true)
    (h : wpAny (model prog w) A.in1 (call (.ref f) [.ref x, b]) (fun v s' => ∃ c, v = .bool c ∧ Q (.bool (!c)) s') E s) : wpAny (model prog w) A (call (.builtin "object.__ne__") [.ref x, b]) Q E s := by
  refine wpAny_call (codeAny_call_builtin PySem.F.cmp_object.ne.plain PySem.F.cmpEntry_ne (check_slot PySem.F.cmpKind_ne PySem.F.cmpSplit_ne (I.type.andThen (looks_mroIn X hm)) (PySem.F.cmpArgs_ne _ _) ?_))
  unfold Builtin.«object.__ne__»
  refine wpAny_bind (m := slotArgs "__ne__" 1 _) (wpAny_pure ?_)
  refine wpAny_bind (m := cRoomFor _ _) (wpAny_cRoomFor hu ?_)
  refine wpAny_bind (m := callSpecialIfBound? (.ref x) (Str.ofString "__eq__") _) (ifBound_K X I hs hf (wpAny_mono h (fun r s' hq => ?_) fun _ _ y => y))
  obtain ⟨c, rfl, q⟩ := hq
  refine wpAny_bind (m := truthy (.bool _)) (wpAny_truthy_bool ?_)
  exact wpAny_pure q
theorem ne_own {Q : Value → Shared → Prop} (hu : A.units + 1 < cLine) (F : Fr h₀ L s.heap m) (X₀ : K.In h₀) (I : InstAt s.heap x ox C od) (hb : Looks (model prog w) s.heap (typeOf b) tb) (hn : notFirst K C tb = true)
    (hne : findIn K (.ref C) "__ne__" = some (some (.builtin "object.__ne__"))) (hm : mroIn K C (.type "object") = some true) (hs : findIn K (.ref C) "__eq__" = some (some (.ref f))) (hf : isFn K (.ref f) = true)
    (h : wpAny (model prog w) A.in1 (call (.ref f) [.ref x, b]) (fun v s' => ∃ c, v = .bool c ∧ Q (.bool (!c)) s') E s) : wpAny (model prog w) A (richCompare .NotEq (.ref x) b) Q E s := by
  have X := X₀.keeps F.keep
  have one : wpAny (model prog w) A (tryCompare (.ref x) (cmpInfo .NotEq).2.1 b) (fun r s' => ∃ v, r = some v ∧ Q v s') E s := by
    unfold tryCompare
    refine wpAny_bind (ifBound_B X I hne PySem.F.cmp_object.ne.bind (obj_ne (by show A.units + 1 < _; exact hu) X I hm hs hf (wpAny_mono h (fun v s' hv => ?_) fun _ _ e => e)))
    obtain ⟨c, rfl, q⟩ := hv
    exact ⟨c, rfl, wpAny_pure ⟨_, rfl, q⟩⟩
  unfold richCompare
  simp only [oneThing_ref]
  refine wpAny_holding (wpAny_bind (wpAny_cRoomFor (Nat.lt_of_succ_lt hu) ?_))
  refine wpAny_bind (I.type.here (wpAny_bind (hb.here ?_)))
  split
  · rename_i q
    have e : subIn K tb (.ref C) = some false := by
      rcases Bool.or_eq_true_iff.mp hn with e | e
      · rw [beq_iff_eq.mp e] at q; simp at q
      · exact beq_iff_eq.mp e
    refine wpAny_bind ((looks_subIn X e).here ?_)
    simp only [Bool.false_eq_true, if_false]
    refine wpAny_bind (wpAny_mono one (fun r s' z => ?_) fun _ _ e => e)
    obtain ⟨v, rfl, hq⟩ := z
    exact wpAny_pure hq
  · refine wpAny_bind (wpAny_pure ?_)
    simp only [Bool.false_eq_true, if_false]
    refine wpAny_bind (wpAny_mono one (fun r s' z => ?_) fun _ _ e => e)
    obtain ⟨v, rfl, hq⟩ := z
    exact wpAny_pure hq
end
end PySem.W
namespace L2
open PySem PySem.Spec PyProof.Rows
/-- what a class with its own == says of itself -/
structure EqOf (K : PySem.W.Frag) (C f : Addr) : Prop where
  eq : PySem.W.findIn K (.ref C) "__eq__" = some (some (.ref f))
  fn : PySem.W.isFn K (.ref f) = true
  ne : PySem.W.findIn K (.ref C) "__ne__" = some (some (.builtin "object.__ne__"))
  mro : PySem.W.mroIn K C (.type "object") = some true
/-- x == y, x an instance of the class at C: what its __eq__ (promise sp) answers, a bool -/
def rEqO (K : PySem.W.Frag) (C : Addr) (sp : Sp) : R2 := fun x y H Q => ∃ a dx fs t, x = .ref a ∧ H a = some (.ins C dx fs) ∧ TyX K H y t ∧ PySem.W.notFirst K C t = true ∧ sp [x, y] H (fun v H' => ∃ c, v = .bl c ∧ Q (.bl c) H') (fun _ _ _ => False)
def rNeO (K : PySem.W.Frag) (C : Addr) (sp : Sp) : R2 := fun x y H Q => ∃ a dx fs t, x = .ref a ∧ H a = some (.ins C dx fs) ∧ TyX K H y t ∧ PySem.W.notFirst K C t = true ∧ sp [x, y] H (fun v H' => ∃ c, v = .bl c ∧ Q (.bl (!c)) H') (fun _ _ _ => False)
section
variable {X : Cx} {CX : CXT} {C f : Addr} {fd : FuncData} {ps : List Str} {sp : Sp} {n : Nat}
theorem own_run {A : Around} {pins : List (Addr × Obj)} {σ : St} {H : Hp} {s : Shared} {Q : VK} {a : Addr} {y : V} {u : Value} (F : FnOk X.prog X.w X.K X.mg X.base CX n f fd ps sp) (hr : Room n A) (hfr : A.frames = X.A.frames) (hb : Binds X.K fd ps []) (hx : Passes CX X (fun _ _ _ => False))
    (I : Inv X pins σ H s) (ry : RelV y u) (h : sp [.ref a, y] H Q (fun _ _ _ => False)) : wpAny (model X.prog X.w) A (call (.ref f) [.ref a, u]) (EP X pins σ Q) X.xe s := by
  have e0 : Env0 X.prog X.w X.K X.mg X.base A X.stack s H := by
    have e := I.env0
    exact ⟨by rw [hfr]; exact e.frames, e.mod, e.bs, e.bsz, e.funs, e.frf, e.hok, e.bare⟩
  have hl := F.len _ _ _ _ h
  have r2 : Vals [V.ref a, y] [Value.ref a, u] := .cons rfl (.cons ry .nil)
  refine wpAny_call (codeAny_mono (F.run A X.stack s H ⟨[.ref a, u], []⟩ [.ref a, u] [.ref a, y] _ _ hr e0 (by
    have := hb s [.ref a, u] I.kIn (by simpa using hl)
    simpa using this) r2 h) fun r s' hq => ?_)
  cases r with
  | error e => exact hx pins σ H s e s' I hq
  | ok fl =>
    cases fl with
    | ret w => exact I.after hq
    | next => exact False.elim hq
    | brk => exact False.elim hq
    | cont => exact False.elim hq
theorem op_eqO (e : EqOf X.K C f) (F : FnOk X.prog X.w X.K X.mg X.base CX n f fd ps sp) (hr : Room n X.A) (hb : Binds X.K fd ps []) (hx : Passes CX X (fun _ _ _ => False)) : OpR X (compareOp .Eq) (rEqO X.K C sp) := by
  intro pins s σ H x y v u Q I rx ry hq
  obtain ⟨a, dx, fs, t, rfl, ha, ty, hn, h⟩ := hq
  obtain rfl : v = Value.ref a := rx
  obtain ⟨mA, J, _⟩ := ins_get I.hok ha
  obtain ⟨od, J, _⟩ := J.look
  obtain ⟨m, hF⟩ := I.fr
  obtain ⟨P, Z, p, _⟩ := kit_of I ry ty
  show wpAny (model X.prog X.w) X.A (richCompare .Eq (.ref a) u) (EP X pins σ Q) X.xe s
  have hu : X.A.units < cLine := by have := hr.un; omega
  refine PySem.W.cmp_K (op := .Eq) hu hF I.ok.mod.kin J (Z.ty _ _ I.kIn p) hn e.eq e.fn ?_
  refine wpAny_mono (own_run F hr rfl hb hx I ry h) (fun r s' z => ?_) fun _ _ z => z
  obtain ⟨z, H', I', rz, c, ez, q⟩ := z
  subst ez
  cases rz
  exact ⟨.bl c, H', I', rfl, q⟩
theorem op_neO (e : EqOf X.K C f) (F : FnOk X.prog X.w X.K X.mg X.base CX n f fd ps sp) (hr : Room (n + 1) X.A) (hb : Binds X.K fd ps []) (hx : Passes CX X (fun _ _ _ => False)) : OpR X (compareOp .NotEq) (rNeO X.K C sp) := by
  intro pins s σ H x y v u Q I rx ry hq
  obtain ⟨a, dx, fs, t, rfl, ha, ty, hn, h⟩ := hq
  obtain rfl : v = Value.ref a := rx
  obtain ⟨mA, J, _⟩ := ins_get I.hok ha
  obtain ⟨od, J, _⟩ := J.look
  obtain ⟨m, hF⟩ := I.fr
  obtain ⟨P, Z, p, _⟩ := kit_of I ry ty
  show wpAny (model X.prog X.w) X.A (richCompare .NotEq (.ref a) u) (EP X pins σ Q) X.xe s
  have hu : X.A.units + 1 < cLine := by have := hr.un; omega
  refine PySem.W.ne_own hu hF I.ok.mod.kin J (Z.ty _ _ I.kIn p) hn e.ne e.mro e.eq e.fn ?_
  refine wpAny_mono (own_run (A := X.A.in1) F hr.in1 rfl hb hx I ry h) (fun r s' z => ?_) fun _ _ z => z
  obtain ⟨z, H', I', rz, c, ez, q⟩ := z
  subst ez
  cases rz
  exact ⟨c, rfl, .bl (!c), H', I', rfl, q⟩
end
end L2
namespace L2
open PySem PySem.Spec PyProof.Rows
/-- what isinstance asks of an own class, and of tuples, numbers and texts beside it -/
structure OwnC (K : PySem.W.Frag) (C : Addr) : Prop where
  cls : PySem.W.findIn K (.ref C) "__class__" = some (some (.builtin "object.__class__"))
  get : PySem.W.specialIn K (.builtin "object.__class__") "__get__" = some (some (.builtin "getset_descriptor.__get__"))
  tak : PySem.W.takesIn K (.builtin "object.__class__") = some true
  mro : PySem.W.mroIn K C (.type "object") = some true
  isc : PySem.W.isClsIn K C = true
  typ : PySem.W.typeIn K (.ref C) = some (.type "type")
  sT : PySem.W.subIn K (.type "tuple") (.ref C) = some false
  sI : PySem.W.subIn K (.type "int") (.ref C) = some false
  sS : PySem.W.subIn K (.type "str") (.ref C) = some false
section
variable {K : PySem.W.Frag} {C : Addr} {H : Hp} {Q : VK} {x : V}
theorem OwnC.tyx (o : OwnC K C) (cl : Cls K C) {a dx : Addr} {fs : List (Str × V)} (h : H a = some (.ins C dx fs)) : TyX K H (.ref a) (.ref C) := .base (.ins h cl o.cls o.get o.tak o.mro)
theorem kit_self : PySem.W.kitOne K (.ref C) (.ref C) = some true := if_pos (beq_self_eq_true _)
theorem kit_no {n : String} (h1 : PySem.W.isClsIn K C = true) (h2 : PySem.W.typeIn K (.ref C) = some (.type "type")) (h : PySem.W.subIn K (.type n) (.ref C) = some false) : PySem.W.kitOne K (.type n) (.ref C) = some false := by
  have h1' : (PySem.W.clsIn K C).isSome = true := h1
  unfold PySem.W.kitOne
  rw [if_neg (by intro e; cases (beq_iff_eq.mp e))]
  show (if ((PySem.W.clsIn K C).isSome && PySem.W.typeIn K (.ref C) == some (.type "type")) = true then PySem.W.subIn K (.type n) (.ref C) else none) = some false
  rw [if_pos (by rw [h1', h2]; rfl)]
  exact h
theorem first_self : PySem.W.notFirst K C (.ref C) = true := by simp [PySem.W.notFirst]
theorem first_no {n : String} (h : PySem.W.subIn K (.type n) (.ref C) = some false) : PySem.W.notFirst K C (.type n) = true := by
  unfold PySem.W.notFirst
  rw [h]
  simp
theorem w_isOwn (o : OwnC K C) (cl : Cls K C) {a dx : Addr} {fs : List (Str × V)} (h : H a = some (.ins C dx fs)) (q : Q (.bl true) H) : rIsi K [.ref a, .ref C] H Q := ⟨_, _, _, _, _, rfl, .own C, o.tyx cl h, kit_self, q⟩
theorem w_isNot (o : OwnC K C) {n : String} (ht : TyX K H x (.type n)) (hs : PySem.W.subIn K (.type n) (.ref C) = some false) (q : Q (.bl false) H) : rIsi K [x, .ref C] H Q := ⟨_, _, _, _, _, rfl, .own C, ht, kit_no o.isc o.typ hs, q⟩
theorem w_rep {l : Addr} {xs : List V} {k : Int} (h : H l = some (.lst xs)) (h0 : 0 ≤ k) (h1 : k ≤ 1000) (hz : xs.length ≤ 1000) (q : ∀ p, H p = none → Q (.ref p) (upd H p (.lst (List.replicate k.toNat xs).flatten))) : rRep (.ref l) (.int k) H Q :=
  ⟨l, k, xs, rfl, rfl, h, by omega, by omega, by
    rw [sizeLine_eq]
    have : xs.length * k.toNat ≤ 1000 * 1000 := Nat.mul_le_mul hz (by omega)
    omega, q⟩
end
/-! ### rows of any values; rows of new lists -/
def RRw (b : Bool) (K : PySem.W.Frag) : Rep (List V) := fun H v xs => ∃ a, v = .ref a ∧ Sq b K H a xs
theorem RRw.mono {b : Bool} {K : PySem.W.Frag} : RMono (RRw b K) := fun _ _ _ _ s ⟨a, e, h⟩ => ⟨a, e, s.sq h⟩
theorem RRw.tup {K : PySem.W.Frag} : RTup (RRw false K) := fun _ _ _ _ hD ⟨a, e, h⟩ => ⟨a, e, sq_hide hD h⟩
/-- D a list of new lists: their addresses, none twice, none there before -/
def FRows (H0 H : Hp) (D : Addr) (rows : List (List V)) : Prop := ∃ ps : List Addr, H D = some (.lst (ps.map V.ref)) ∧ ps.length = rows.length ∧ ps.Nodup ∧ (∀ p ∈ ps, H0 p = none) ∧ H0 D = none ∧ D ∉ ps ∧ ∀ (i : Nat) p r, ps[i]? = some p → rows[i]? = some r → H p = some (.lst r)
section
variable {K : PySem.W.Frag} {H0 H H' : Hp} {D : Addr} {rows : List (List V)}
theorem FRows.mono (s : Same H H') (f : FRows H0 H D rows) : FRows H0 H' D rows := by
  obtain ⟨ps, h1, h2, h3, h4, h5, h6, h7⟩ := f
  exact ⟨ps, s _ _ h1, h2, h3, h4, h5, h6, fun i p r a b => s _ _ (h7 i p r a b)⟩
theorem FRows.seq (f : FRows H0 H D rows) : RSeq true K (RRw true K) H (.ref D) rows := by
  obtain ⟨ps, h1, h2, h3, h4, h5, h6, h7⟩ := f
  refine ⟨D, _, rfl, Sq.lst h1, by rw [List.length_map]; exact h2, fun i y x hy hx => ?_⟩
  rw [List.getElem?_map] at hy
  cases e : ps[i]? with
  | none => rw [e] at hy; cases hy
  | some p =>
    rw [e] at hy
    cases hy
    exact ⟨p, rfl, Sq.lst (h7 i p x e hx)⟩
/-- a store into one of the rows -/
theorem FRows.set {i : Nat} {r r' : List V} (f : FRows H0 H D rows) (hi : rows[i]? = some r) : ∃ p, (∃ ps : List Addr, H D = some (.lst (ps.map V.ref)) ∧ ps[i]? = some p) ∧ H p = some (.lst r) ∧ H0 p = none ∧ p ≠ D ∧ FRows H0 (upd H p (.lst r')) D (rows.set i r') := by
  obtain ⟨ps, h1, h2, h3, h4, h5, h6, h7⟩ := f
  have hlt := (List.getElem?_eq_some_iff.mp hi).1
  have hp : ps[i]? = some (ps[i]'(by omega)) := List.getElem?_eq_getElem (by omega)
  generalize ps[i]'(by omega) = p at hp
  have hm := List.mem_of_getElem? hp
  have hpD : p ≠ D := fun e => h6 (by rw [← e]; exact hm)
  refine ⟨p, ⟨ps, h1, hp⟩, h7 i p r hp hi, h4 p hm, hpD, ps, (upd_ne (Ne.symm hpD)).trans h1, by rw [List.length_set]; exact h2, h3, h4, h5, h6, fun j q x hq hx => ?_⟩
  rw [List.getElem?_set] at hx
  by_cases e : i = j
  · subst e
    rw [if_pos rfl, if_pos hlt] at hx
    rw [hp] at hq
    cases hq
    cases hx
    exact upd_same
  · rw [if_neg e] at hx
    have hqp : q ≠ p := fun z => e (by
      subst z
      have a := (List.getElem?_eq_some_iff.mp hp)
      have b := (List.getElem?_eq_some_iff.mp hq)
      exact (List.getElem_inj h3).mp (a.2.trans b.2.symm))
    rw [upd_ne hqp]
    exact h7 j q x hq hx
theorem map_ref_inj : ∀ {ps qs : List Addr}, ps.map V.ref = qs.map V.ref → ps = qs
  | [], [], _ => rfl
  | [], q :: qs, h => by cases h
  | p :: ps, [], h => by cases h
  | p :: ps, q :: qs, h => by
    rw [List.map_cons, List.map_cons] at h
    injection h with h1 h2
    injection h1 with h1
    rw [h1, map_ref_inj h2]
/-- a new list put behind the rows -/
theorem FRows.push {p : Addr} {r : List V} {ps : List Addr} (h1 : H D = some (.lst (ps.map V.ref))) (f : FRows H0 H D rows) (hp : H p = some (.lst r)) (h0 : H0 p = none) (hn : p ∉ ps) (hD : p ≠ D) : FRows H0 (upd H D (.lst (ps.map V.ref ++ [.ref p]))) D (rows ++ [r]) := by
  obtain ⟨ps', g1, h2, h3, h4, h5, h6, h7⟩ := f
  have e : ps' = ps := by
    rw [g1] at h1
    have h1 : ps'.map V.ref = ps.map V.ref := by
      have := Option.some.inj h1
      injection this
    exact map_ref_inj h1
  subst e
  refine ⟨ps' ++ [p], by rw [upd_same, List.map_append]; rfl, by rw [List.length_append, List.length_append, h2]; rfl, List.nodup_append.mpr ⟨h3, List.nodup_cons.mpr ⟨List.not_mem_nil, List.nodup_nil⟩, fun a ha b hb e => hn (by rw [List.mem_singleton.mp hb] at e; rw [← e]; exact ha)⟩,
    fun q hq => ?_, h5, fun hm => ?_, fun i q x hq hx => ?_⟩
  · rcases List.mem_append.mp hq with h | h
    · exact h4 q h
    · rw [List.mem_singleton.mp h]; exact h0
  · rcases List.mem_append.mp hm with h | h
    · exact h6 h
    · exact hD (List.mem_singleton.mp h).symm
  · have hq1 := (List.getElem?_eq_some_iff.mp hq).1
    rw [List.length_append] at hq1
    by_cases hlt : i < ps'.length
    · rw [List.getElem?_append_left hlt] at hq
      rw [List.getElem?_append_left (by omega)] at hx
      have hqD : q ≠ D := fun e => h6 (by rw [← e]; exact List.mem_of_getElem? hq)
      rw [upd_ne hqD]
      exact h7 i q x hq hx
    · have ei : i = ps'.length := by
        have : i < ps'.length + 1 := hq1
        omega
      subst ei
      rw [List.getElem?_append_right (Nat.le_refl _), Nat.sub_self] at hq
      rw [h2, List.getElem?_append_right (Nat.le_refl _), Nat.sub_self] at hx
      cases hq
      cases hx
      rw [upd_ne hD]
      exact hp
end
theorem line_of1 {n : Nat} (h : n ≤ 1000000) : n < sizeLine := by rw [sizeLine_eq]; omega
theorem w_tupAny {K : PySem.W.Frag} {H : Hp} {Q : VK} {b : Bool} {a : Addr} {ys : List V} (h : Sq b K H a ys) (q : ∀ p H', Same H H' → Sq false K H' p ys → Q (.ref p) H') : rTupS K [.ref a] H Q := by
  cases b with
  | true => exact w_tupL h fun p hp => q _ _ (Same.new hp) (Sq.tup upd_same)
  | false => exact w_tupT h (q _ _ (Same.refl _) h)
theorem w_catA {K : PySem.W.Frag} {H : Hp} {Q : VK} {a b : Addr} {xs ys : List V} (h1 : Sq false K H a xs) (h2 : Sq false K H b ys) (hz : xs.length + ys.length ≤ 1000000) (q : ∀ p H', Same H H' → Sq false K H' p (xs ++ ys) → Q (.ref p) H') : rCatA K (.ref a) (.ref b) H Q :=
  ⟨a, b, xs, ys, rfl, rfl, h1, h2, by rw [sizeLine_eq]; omega, fun e => q _ _ (Same.refl _) (by rw [e]; exact h2), fun _ e => q _ _ (Same.refl _) (by rw [e, List.append_nil]; exact h1), fun _ _ p hp => q _ _ (Same.new hp) (Sq.tup upd_same)⟩
theorem Fr.sqI {b : Bool} {K : PySem.W.Frag} {H H' : Hp} {t a : Addr} {xs : List V} (f : Fr t H H') (ht : ∃ C dx fs, H t = some (.ins C dx fs)) (h : Sq b K H a xs) : Sq b K H' a xs := by
  obtain ⟨C, dx, fs, ht⟩ := ht
  cases b with
  | true =>
    have h : SqL K H a xs := h
    rcases h with (h | ⟨o, h⟩) | h
    · exact .inl (.inl (f _ _ (fun e => by rw [e, ht] at h; cases h) h))
    · exact .inl (.inr ⟨o, f _ _ (fun e => by rw [e, ht] at h; cases h) h⟩)
    · exact .inr h
  | false =>
    have h : SqT K H a xs := h
    rcases h with (h | ⟨o, h⟩) | h
    · exact .inl (.inl (f _ _ (fun e => by rw [e, ht] at h; cases h) h))
    · exact .inl (.inr ⟨o, f _ _ (fun e => by rw [e, ht] at h; cases h) h⟩)
    · exact .inr h
/-- lists or tuples of lists or tuples of any values -/
def RRows (b1 b2 : Bool) (K : PySem.W.Frag) : Rep (List (List V)) := RSeq b1 K (RRw b2 K)
theorem RRows.mono {b1 b2 : Bool} {K : PySem.W.Frag} : RMono (RRows b1 b2 K) := RSeq.mono RRw.mono
theorem RRows.fr {b1 b2 : Bool} {K : PySem.W.Frag} {H H' : Hp} {t : Addr} {v : V} {rows : List (List V)} (f : Fr t H H') (ht : ∃ C dx fs, H t = some (.ins C dx fs)) (h : RRows b1 b2 K H v rows) : RRows b1 b2 K H' v rows := by
  obtain ⟨a, vs, e, h1, h2, h3⟩ := h
  exact ⟨a, vs, e, f.sqI ht h1, h2, fun i y x hy hx => by
    obtain ⟨p, e, hp⟩ := h3 i y x hy hx
    exact ⟨p, e, f.sqI ht hp⟩⟩
theorem RRows.get {b1 b2 : Bool} {K : PySem.W.Frag} {H : Hp} {v : V} {rows : List (List V)} {i : Nat} {r : List V} (h : RRows b1 b2 K H v rows) (hi : rows[i]? = some r) : ∃ a vs p, v = .ref a ∧ Sq b1 K H a vs ∧ vs.length = rows.length ∧ vs[i]? = some (.ref p) ∧ Sq b2 K H p r := by
  obtain ⟨a, vs, e, h1, h2, h3⟩ := h
  obtain ⟨y, hy, p, ep, hp⟩ := RSeq.get (R := RRw b2 K) h2 h3 hi
  subst ep
  exact ⟨a, vs, p, e, h1, h2, hy, hp⟩
theorem none_back {H H' : Hp} {p : Addr} (s : Same H H') (h : H' p = none) : H p = none := by
  cases e : H p with
  | none => rfl
  | some u => rw [s _ _ e] at h; cases h
section
variable {K : PySem.W.Frag} {σ : St} {H : Hp} {te : TE} {vs : List Nat} {Q : VK}
theorem FRows.nil {D : Addr} (hD : H D = none) : FRows H (upd H D (.lst [])) D [] := ⟨[], upd_same, rfl, List.nodup_nil, List.forall_mem_nil _, hD, List.not_mem_nil, fun i p r h => by simp at h⟩
theorem FRows.next {H0 H1 H2 : Hp} {D p : Addr} {rows : List (List V)} {r : List V} {acc : List V} (f : FRows H0 H1 D rows) (s0 : Same H0 H1) (e : H1 D = some (.lst acc)) (hp : H1 p = none) (s : Same H1 H2) (ep : H2 p = some (.lst r)) :
    H2 D = some (.lst acc) ∧ FRows H0 (upd H2 D (.lst (acc ++ [.ref p]))) D (rows ++ [r]) := by
  obtain ⟨ps, h1, h2, h3, h4, h5, h6, h7⟩ := id f
  have ea : acc = ps.map V.ref := by
    rw [h1] at e
    have e := Option.some.inj e
    injection e with e
    exact e.symm
  subst ea
  refine ⟨s _ _ e, (f.mono s).push (s _ _ h1) ep (none_back s0 hp) (fun hm => ?_) (fun e2 => by rw [e2, e] at hp; cases hp)⟩
  obtain ⟨q, hq1, hq2⟩ := List.mem_iff_getElem.mp hm
  have a1 : ps[q]? = some p := by rw [List.getElem?_eq_getElem hq1, hq2]
  have a3 := h7 q p _ a1 (List.getElem?_eq_getElem (by omega))
  rw [a3] at hp; cases hp
/-- a comprehension that gives new lists -/
theorem c_fresh {b : Bool} {a : Addr} {j : Nat} (rows : List (List V)) (xs : List V) (hx : Sq b K H a xs) (hl : rows.length = xs.length) (hz : xs.length < sizeLine) (hw : ∀ x : V, wipe ((wipe σ vs).set j (some x)) vs = wipe σ vs)
    (hs : ∀ (i : Nat) x r H1 (N : VK), i < xs.length → xs[i]? = some x → rows[i]? = some r → Same H H1 → (∀ p H2, H1 p = none → Same H1 H2 → H2 p = some (.lst r) → N (.ref p) H2) → te ((wipe σ vs).set j (some x)) H1 N)
    (k : ∀ D H', Same H H' → FRows H H' D rows → Q (.ref D) H') :
    ∃ a', V.ref a = .ref a' ∧ ((∃ xs, SqL K H a' xs) ∧ CompOk (Itl K a') (gName j) tYes te vs σ H Q ∨ (∃ xs, SqT K H a' xs) ∧ CompOk (Itt K a') (gName j) tYes te vs σ H Q) := by
  refine l_compGS (b := b) xs hz (fun D i acc H' => Same H H' ∧ FRows H H' D (rows.take i)) hx hw (fun D hD => ⟨Same.new hD, FRows.nil hD⟩) (fun D i acc H' st => st.1.sq hx) (fun i x H1 D acc NT NF hi hxi hD st e1 hal hT hF => ?_) (fun D H' ys hD st e hly => ?_)
  · obtain ⟨s1, f1⟩ := st
    have hri : rows[i]? = some (rows[i]'(by omega)) := List.getElem?_eq_getElem (by omega)
    show te _ H1 NT
    refine hs i x _ H1 NT hi hxi hri s1 fun p H2 hp s2 ep => ?_
    obtain ⟨e2, f2⟩ := f1.next s1 e1 hp s2 ep
    refine hT _ H2 e2 ⟨Same.mut (s1.trans s2) hD, ?_⟩
    rw [List.take_add_one, hri]
    exact f2
  · rw [← hl, List.take_length] at st
    exact k D H' st.1 st.2
end
theorem w_setV {H : Hp} {p : Addr} {xs : List V} {k : Int} {v : V} {N : Hp → Prop} (h : H p = some (.lst xs)) (h0 : 0 ≤ k) (h1 : k < xs.length) (q : N (upd H p (.lst (xs.set k.toNat v)))) : rSetL (.ref p) (.int k) v H N := by
  refine ⟨p, xs, k, k.toNat, rfl, rfl, h, ?_, q⟩
  unfold ixN
  rw [if_pos h0, if_pos h1]
theorem RRows.updL {K : PySem.W.Frag} {H : Hp} {q : Addr} {xs : List V} {o : HO} {v : V} {rows : List (List V)} (hq : H q = some (.lst xs)) (h : RRows false false K H v rows) : RRows false false K (upd H q o) v rows :=
  RTup.upd (RSeq.tup RRw.tup) RRows.mono (NTup.lst hq) h
/-- all keyword-only parameters written -/
theorem kbind_of {K : PySem.W.Frag} {x qual : Str} {st : Stmt} {f : Addr} {fd : FuncData} {ps ks : List Str} {n : Nat} (F : Fun K x qual st f fd)
    (h : ∀ (kV doc pm : Value) (an : Option Addr) (cdv ct : Value) (us ws : List Value), us.length = n → ws.length = ks.length → bindArgs (PySem.W.fnOf x qual (defArgs st) (defBody st) (defScope st) .none kV doc pm an cdv ct) ⟨us, ks.zip ws⟩ = pure (ps.zip (us ++ ws))) :
    KBn K fd ps n ks (fun us ws => us ++ ws) (fun vs zs => vs ++ zs) := by
  obtain ⟨oc, od, kV, doc, pm, an, cdv, ct, osl, rfl, lk, hcd⟩ := F.ex
  exact ⟨fun s us ws X l1 l2 => .of_eq (h kV doc pm an cdv ct us ws l1 l2), fun r1 r2 => r1.append r2⟩
/-- one keyword-only parameter that lacks: its default is read off -/
theorem kbind_dflt {K : PySem.W.Frag} {x qual m : Str} {st : Stmt} {f D : Addr} {oc doc pm cdv ct u : Value} {od an : Option Addr} {osl : Array (Option Value)} {ps : List Str} (n : Nat) (hn : n + 1 = ps.length)
    (l : K.lookup f = some ⟨oc, od, .func (PySem.W.fnOf x qual (defArgs st) (defBody st) (defScope st) .none (.ref D) doc pm an cdv ct), osl⟩) (hd : PySem.W.nsIn K D m = some (some u))
    (h : ∀ (us : List Value), us.length = n → KwChain D [(m, u)] (bindArgs (PySem.W.fnOf x qual (defArgs st) (defBody st) (defScope st) .none (.ref D) doc pm an cdv ct) ⟨us, []⟩) (ps.zip (us ++ [u]))) :
    Binds K (PySem.W.fnOf x qual (defArgs st) (defBody st) (defScope st) .none (.ref D) doc pm an cdv ct) ps [u] := fun s us X hlen => by
  have l2 : us.length = n := by
    rw [List.length_append] at hlen
    have : us.length + 1 = ps.length := hlen
    omega
  exact BindsTo.of_looks fun M => KwChain.looks X (fun q hq => by
    rw [List.mem_singleton.mp hq]
    exact hd) (h us l2)
section
variable {K : PySem.W.Frag} {σ : St} {H : Hp} {te : TE} {vs : List Nat} {Q : VK}
/-- a comprehension over enumerate that gives numbers -/
theorem c_intsE {b : Bool} {a : Addr} {i1 i2 : Nat} (xs : List V) (hx : Sq b K H a xs) (ms : List Int) (hl : ms.length = xs.length) (hz : xs.length < sizeLine) (hw : ∀ x y : V, wipe (((wipe σ vs).set i1 (some x)).set i2 (some y)) vs = wipe σ vs)
    (hs : ∀ (i : Nat) x H1 (N : VK), i < xs.length → xs[i]? = some x → Same H H1 → (∀ H4, Same H1 H4 → N (.int (nth ms (i : Nat))) H4) → te (((wipe σ vs).set i1 (some (.int (i : Int)))).set i2 (some x)) H1 N)
    (k : ∀ D H', H D = none → Same H H' → H' D = some (.lst (ms.map V.int)) → Q (.ref D) H') :
    ∃ a', [V.ref a] = [.ref a'] ∧ ((∃ xs, SqL K H a' xs) ∧ CompOk (Ite K a') (gTup K 2 (gCons (gName i1) (gCons (gName i2) gNil))) tYes te vs σ H Q ∨ (∃ xs, SqT K H a' xs) ∧ CompOk (IteT K a') (gTup K 2 (gCons (gName i1) (gCons (gName i2) gNil))) tYes te vs σ H Q) := by
  have body : ∀ (i : Nat) (v : V) H1 (T D : Addr) acc (NT : VK), i < xs.length → xs[i]? = some v → H D = none → (Same H H1 ∧ acc.length = i ∧ ∀ (j : Nat) y, acc[j]? = some y → y = .int (nth ms (j : Nat))) → H1 D = some (.lst acc) → H1 T = none →
      (∀ y H5, H5 D = some (.lst acc) → (Same H (upd H5 D (.lst (acc ++ [y]))) ∧ (acc ++ [y]).length = i + 1 ∧ ∀ (j : Nat) z, (acc ++ [y])[j]? = some z → z = .int (nth ms (j : Nat))) → NT y H5) →
      te (((wipe σ vs).set i1 (some (.int (i : Int)))).set i2 (some v)) (upd H1 T (.tup [.int (i : Int), v])) NT := fun i v H1 T D acc NT hi hv hD st e1 hT hN => by
    obtain ⟨s1, hal, hac⟩ := st
    have sT := s1.trans (Same.new (o := .tup [.int (i : Int), v]) hT)
    refine hs i v _ NT hi hv sT fun H4 s4 => hN _ H4 (s4 _ _ (Same.new hT _ _ e1)) ⟨Same.mut (sT.trans s4) hD, by rw [List.length_append, hal]; rfl, fun j z hj => ?_⟩
    by_cases hlt : j < acc.length
    · rw [List.getElem?_append_left hlt] at hj
      exact hac j z hj
    · have h1 := (List.getElem?_eq_some_iff.mp hj).1
      rw [List.length_append] at h1
      have ej : j = acc.length := by
        have : j < acc.length + 1 := h1
        omega
      subst ej
      rw [List.getElem?_append_right (Nat.le_refl _), Nat.sub_self] at hj
      cases hj
      rw [hal]
  refine ⟨a, rfl, ?_⟩
  cases b with
  | true =>
    refine .inl ⟨⟨xs, hx⟩, l_compG (walk_enum (xs := xs)) hz (fun D i acc H' => Same H H' ∧ acc.length = i ∧ ∀ (j : Nat) y, acc[j]? = some y → y = .int (nth ms (j : Nat))) (fun D hD => ⟨Same.new hD, rfl, fun j y e => by simp at e⟩) (fun D i acc H' st => st.1.sq hx) (fun i x H1 H2 D acc NT NF hi hD st e1 hal hy hT hF => ?_) (fun D H' ys hD st e hly => ?_)⟩
    · obtain ⟨T, u, v, rfl, hTn, e, hu, hv⟩ := hy
      cases hu
      subst e
      refine w_pair (Sq.tup upd_same) ⟨hw _ _, ?_⟩
      show te _ _ NT
      exact body i v H1 T D acc NT hi hv hD st e1 hTn hT
    · exact k D H' hD st.1 (by rw [e, vec_of (by omega) st.2.2])
  | false =>
    refine .inr ⟨⟨xs, hx⟩, l_compG (walk_enumT (xs := xs)) hz (fun D i acc H' => Same H H' ∧ acc.length = i ∧ ∀ (j : Nat) y, acc[j]? = some y → y = .int (nth ms (j : Nat))) (fun D hD => ⟨Same.new hD, rfl, fun j y e => by simp at e⟩) (fun D i acc H' st => st.1.sq hx) (fun i x H1 H2 D acc NT NF hi hD st e1 hal hy hT hF => ?_) (fun D H' ys hD st e hly => ?_)⟩
    · obtain ⟨T, u, v, rfl, hTn, e, hu, hv⟩ := hy
      cases hu
      subst e
      refine w_pair (Sq.tup upd_same) ⟨hw _ _, ?_⟩
      show te _ _ NT
      exact body i v H1 T D acc NT hi hv hD st e1 hTn hT
    · exact k D H' hD st.1 (by rw [e, vec_of (by omega) st.2.2])
end
end L2

namespace L2
open PySem PySem.Spec PyProof.Rows
/-! ### x + y, x - y, x * y of two instances of a class, by its own method -/
structure BinOf (K : PySem.W.Frag) (C f : Addr) (nm : Str) : Prop where
  at_ : PySem.W.findIn K (.ref C) nm = some (some (.ref f))
  fn : PySem.W.isFn K (.ref f) = true
  sf : PySem.W.selfFirst K C = true
def rBinO (C : Addr) (sp : Sp) : R2 := fun x y H Q => ∃ a dx fs b dy gs, x = .ref a ∧ y = .ref b ∧ H a = some (.ins C dx fs) ∧ H b = some (.ins C dy gs) ∧ sp [x, y] H (fun v H' => (∃ p, v = .ref p) ∧ Q v H') (fun _ _ _ => False)
theorem op_binO {X : Cx} {CX : CXT} {C f : Addr} {fd : FuncData} {ps : List Str} {sp : Sp} {n : Nat} {op : Operator} {nm : Str} (e : BinOf X.K C f nm) (F : FnOk X.prog X.w X.K X.mg X.base CX n f fd ps sp) (hr : Room n X.A) (hb : Binds X.K fd ps []) (hx : Passes CX X (fun _ _ _ => False)) (hn : PySem.dunder op.info.2 = nm := by rfl) :
    OpR X (binaryOp op) (rBinO C sp) := by
  intro pins s σ H x y v u Q I rx ry hq
  obtain ⟨a, dx, fs, b, dy, gs, rfl, rfl, ha, hb', h⟩ := hq
  obtain rfl : v = Value.ref a := rx
  obtain rfl : u = Value.ref b := ry
  obtain ⟨mA, J, _⟩ := ins_get I.hok ha
  obtain ⟨od, J, _⟩ := J.look
  obtain ⟨mB, J', _⟩ := ins_get I.hok hb'
  obtain ⟨od', J', _⟩ := J'.look
  obtain ⟨m, hF⟩ := I.fr
  refine PySem.W.binop_K (op := op) hF I.ok.mod.kin J J'.type e.sf (by rw [hn]; exact e.at_) e.fn ?_
  refine wpAny_mono (own_run F hr rfl hb hx I (show RelV (V.ref b) (Value.ref b) from rfl) h) (fun r s' z => ?_) fun _ _ z => z
  obtain ⟨z, H', I', rz, ⟨p, ez⟩, q⟩ := z
  subst ez
  obtain rfl : r = Value.ref p := rz
  exact ⟨.ref p, H', I', rfl, q⟩
end L2

namespace L2
open PySem PySem.Spec PyProof.Rows
/-! ### // of numbers of at most 4000 bits by any number; tuples that stand in the heap; dicts with tuples as keys -/
def CDivV (i j : Int) : Prop := j ≠ 0 ∧ i.natAbs < 2 ^ 4000
theorem noPylong_w {x y : Int} (h : x.natAbs < 2 ^ 4000) : Builtin.divisionGoesByPylong x y = false := by
  unfold Builtin.divisionGoesByPylong
  have k : (if x == 0 then 0 else x.natAbs.log2 / 30 + 1) ≤ 150 := by
    by_cases h0 : x = 0
    · subst h0; decide
    · rw [if_neg (by simpa using h0)]
      have h1 : x.natAbs.log2 < 4000 := (Nat.log2_lt (by omega)).mpr h
      omega
  have e : decide ((if x == 0 then 0 else x.natAbs.log2 / 30 + 1) > (if y == 0 then 0 else y.natAbs.log2 / 30 + 1) + 150) = false := decide_eq_false (by omega)
  show (decide _ && decide ((if x == 0 then 0 else x.natAbs.log2 / 30 + 1) > (if y == 0 then 0 else y.natAbs.log2 / 30 + 1) + 150)) = false
  rw [e, Bool.and_false]
theorem op_fdivV {X : Cx} : OpR X (binaryOp .FloorDiv) (rI CDivV fun i j => .int (i.fdiv j)) := opI fun _ _ _ _ _ _ _ hc q => floordiv_int hc.1 q (.inl (noPylong_w hc.2))
theorem mulW {i j : Int} (h1 : i.natAbs < 2 ^ 2000) (h2 : j.natAbs < 2 ^ 2000) : CMulX i j := mulx_ok h1 h2 (by omega)
/-- a list (true), or a tuple that stands in the heap -/
def Tq (b : Bool) (K : PySem.W.Frag) (H : Hp) (a : Addr) (xs : List V) : Prop := match b with
  | true => SqL K H a xs
  | false => H a = some (.tup xs)
theorem Tq.sq {b : Bool} {K : PySem.W.Frag} {H : Hp} {a : Addr} {xs : List V} (h : Tq b K H a xs) : Sq b K H a xs := by
  cases b
  · exact Sq.tup h
  · exact h
theorem Same.tq {b : Bool} {K : PySem.W.Frag} {H H' : Hp} {a : Addr} {xs : List V} (s : Same H H') (h : Tq b K H a xs) : Tq b K H' a xs := by
  cases b
  · exact s _ _ h
  · exact s.sq (b := true) h
section
variable {K : PySem.W.Frag} {σ : St} {H : Hp} {Q : VK}
theorem w_slTq {b : Bool} {a : Addr} {xs ys : List V} {lo hi : Option Int} (h : Tq b K H a xs) (e : cutV xs lo hi = ys) (q : ∀ p H', Same H H' → Tq b K H' p ys → Q (.ref p) H') : rSlG K (.ref a) lo hi H Q := by
  cases b with
  | true => exact .inl ⟨a, xs, rfl, h, fun p hp => q _ _ (Same.new hp) (show SqL _ _ _ _ from SqL.of (by rw [upd_same, e]))⟩
  | false =>
    refine .inr ⟨a, xs, rfl, Sq.tup h, fun hw => ?_, fun _ p hp => q _ _ (Same.new hp) (show _ = _ by rw [upd_same, e])⟩
    have e2 : xs = ys := by
      rw [← e]
      unfold cutV
      rw [hw.1, hw.2, List.drop_zero, Nat.sub_zero, List.take_length]
    exact q _ _ (Same.refl _) (e2 ▸ h)
theorem w_tupTq {b : Bool} {a : Addr} {ys : List V} (h : Tq b K H a ys) (q : ∀ p H', Same H H' → H' p = some (.tup ys) → Q (.ref p) H') : rTupS K [.ref a] H Q := by
  cases b with
  | true => exact w_tupL h fun p hp => q _ _ (Same.new hp) upd_same
  | false => exact w_tupT (Sq.tup h) (q _ _ (Same.refl _) h)
theorem w_catT {a b : Addr} {xs ys : List V} (h1 : H a = some (.tup xs)) (h2 : H b = some (.tup ys)) (hz : xs.length + ys.length ≤ 1000000) (q : ∀ p H', Same H H' → H' p = some (.tup (xs ++ ys)) → Q (.ref p) H') : rCatA K (.ref a) (.ref b) H Q :=
  ⟨a, b, xs, ys, rfl, rfl, Sq.tup h1, Sq.tup h2, by rw [sizeLine_eq]; omega, fun e => q _ _ (Same.refl _) (by rw [e]; exact h2), fun _ e => q _ _ (Same.refl _) (by rw [e, List.append_nil]; exact h1), fun _ _ p hp => q _ _ (Same.new hp) upd_same⟩
theorem w_whN {m : Nat} {W : Nat → St → Hp → Prop} {F : (St → Hp → Prop) → Prop} (q : F fun σ' H' => ∃ m', m' < m ∧ W m' σ' H') : ∃ N : St → Hp → Prop, (∀ σ' H', N σ' H' → ∃ m', m' < m ∧ W m' σ' H') ∧ F N := ⟨_, fun _ _ h => h, q⟩
theorem w_dnew (q : ∀ p, H p = none → Q (.ref p) (upd H p (.dT []))) : tDNewT σ H Q := q
theorem w_dnotin {ty td : TE} (q : ty σ H fun y H1 => td σ H1 fun x H2 => ∃ a o, x = .ref a ∧ DGet H2 a y o ∧ Q (.bl (!o.isSome)) H2) : tDNotIn ty td σ H Q := q
theorem w_par {i j : Nat} {ta : TA} {f b' c' : St → Hp → Prop} {rt : VK} (q : ta σ H fun vs H1 => ∃ v w, vs = [v, w] ∧ f ((σ.set i (some v)).set j (some w)) H1) : tPar i j ta ⟨f, rt, b', c'⟩ σ H := q
theorem w_par2 {v w : V} {F : V → V → Prop} (q : F v w) : ∃ v' w', [v, w] = [v', w'] ∧ F v' w' := ⟨v, w, rfl, q⟩
theorem w_while {c : TT} {tb : TS} {f b' c' : St → Hp → Prop} {rt : VK} (W : Nat → St → Hp → Prop) (m : Nat) (h0 : W m σ H)
    (hs : ∀ m σ H, W m σ H → c σ H fun b H1 => if b = true then ∃ N : St → Hp → Prop, (∀ σ' H', N σ' H' → ∃ m', m' < m ∧ W m' σ' H') ∧ tb ⟨N, rt, f, N⟩ σ H1 else f σ H1) : tWhile c tb ⟨f, rt, b', c'⟩ σ H := by
  refine ⟨W, ⟨m, h0⟩, fun m σ H h => ?_⟩
  exact hs m σ H h
end
/-! ### all but what stands at one place -/
theorem Fr.hide {t : Addr} {H H' : Hp} (f : Fr t H H') : Same (hide t H) H' := fun b o e => by
  by_cases h : b = t
  · subst h; rw [hide_at] at e; cases e
  · rw [hide_ne h] at e; exact f b o h e
theorem Fr.rep {α : Type} {R : Rep α} (hm : RMono R) (ht : RTup R) {t : Addr} {H H' : Hp} {v : V} {x : α} (f : Fr t H H') (hn : NTup (H t)) (h : R H v x) : R H' v x := hm _ _ _ _ f.hide (ht _ _ _ _ hn h)
theorem Fr.sqD {t : Addr} {H H' : Hp} {b : Bool} {K : PySem.W.Frag} {a : Addr} {xs : List V} {kvs : List (List Key × V)} (f : Fr t H H') (ht : H t = some (.dT kvs)) (h : Sq b K H a xs) : Sq b K H' a xs := by
  cases b with
  | true =>
    have h : SqL K H a xs := h
    rcases h with (h | ⟨o, h⟩) | h
    · exact .inl (.inl (f _ _ (fun e => by rw [e, ht] at h; cases h) h))
    · exact .inl (.inr ⟨o, f _ _ (fun e => by rw [e, ht] at h; cases h) h⟩)
    · exact .inr h
  | false =>
    have h : SqT K H a xs := h
    rcases h with (h | ⟨o, h⟩) | h
    · exact .inl (.inl (f _ _ (fun e => by rw [e, ht] at h; cases h) h))
    · exact .inl (.inr ⟨o, f _ _ (fun e => by rw [e, ht] at h; cases h) h⟩)
    · exact .inr h
theorem Fr.tqD {t : Addr} {H H' : Hp} {b : Bool} {K : PySem.W.Frag} {a : Addr} {xs : List V} {kvs : List (List Key × V)} (f : Fr t H H') (ht : H t = some (.dT kvs)) (h : Tq b K H a xs) : Tq b K H' a xs := by
  cases b with
  | true => exact f.sqD (b := true) ht h
  | false =>
    have h : H a = some (.tup xs) := h
    exact f _ _ (fun e => by rw [e, ht] at h; cases h) h
theorem NTup.dT {H : Hp} {D : Addr} {kvs : List (List Key × V)} (h : H D = some (.dT kvs)) : NTup (H D) := by rw [h]; trivial
end L2

namespace PySem.W
open PySem PySem.Spec PySem.Calls PyProof.Rows
/-! ### isinstance of a caught error that has a dict of its own -/
section
variable {prog : Program} {w : World} {A : Around} {E : Value → Shared → Prop} {s : Shared} {K : Frag} {x D : Addr} {ox od : Obj}
theorem kin_classX {Q : Option Value → Shared → Prop} (hga : findIn K (.ref D) "__getattribute__" = some (some (.builtin "BaseException.__getattribute__"))) (hgt : findIn K (.ref D) "__getattr__" = some none) (hsub : subIn K (.ref D) (.type "BaseException") = some true)
    (hdct : hasDictIn K D = true) (ha : findIn K (.ref D) "__class__" = some (some (.builtin "object.__class__")))
    (hn : specialIn K (.builtin "object.__class__") "__get__" = some (some (.builtin "getset_descriptor.__get__"))) (htk : takesIn K (.builtin "object.__class__") = some true) (hm : mroIn K D (.type "object") = some true)
    (X : K.In s.heap) (I : InstAt s.heap x ox D (some od)) (h : Q (some (.ref D)) { s with toks := s.toks + 1 }) : wpAny (model prog w) A (getAttr? (.ref x) "__class__") Q E s := by
  have hf : findObj K D (some od) "__class__" = some (.bind (.builtin "getset_descriptor.__get__") (.builtin "object.__class__")) := findObj_data (by obtain ⟨cd, hc, _⟩ := any_some hdct; rw [hc]; rfl) ha hn htk
  obtain ⟨hp, g, d, t, os⟩ := s
  have L0 := I.type (M := model prog w)
  have L1 := looks_findIn (M := model prog w) X hga
  have L2 := looks_findIn (M := model prog w) X hgt
  have L3 := looks_find (M := model prog w) X I hf
  have sub : Looks (model prog w) hp (isInstance (.ref x) (.type "BaseException")) true := L0.andThen (looks_subIn X hsub)
  have hx0 : (false && onTheHeap (Value.builtin "BaseException.__getattribute__")) = false := rfl
  have hx2 : (Value.builtin "BaseException.__getattribute__" == Value.builtin "object.__getattribute__") = false := by decide +kernel
  have hx1 : (onTheHeap (Value.ref D) && Value.builtin "BaseException.__getattribute__" == Value.builtin "object.__getattribute__") = false := by rw [hx2]; rfl
  unfold getAttr? getAttrBy? getAttrBy
  refine wpAny_bind (wpAny_mkText (wpAny_bind (wpAny_attempt (wpAny_holding (wpAny_bind (L0.at (wpAny_bind (L1.at ?_))))))))
  show wpAny _ _ (if (onTheHeap (Value.ref D) && Value.builtin "BaseException.__getattribute__" == Value.builtin "object.__getattribute__") = true then _ else _) _ _ _
  rw [hx1, if_neg Bool.false_ne_true]
  unfold getAttrByItsOwn hookBefore
  refine wpAny_bind ?_
  rw [if_pos (show onTheHeap (Value.ref D) = true from rfl)]
  refine L2.at ?_
  refine wpAny_bind (wpAny_attempt (wpAny_holding ?_))
  unfold callGetattribute
  rw [hx0, if_neg Bool.false_ne_true]
  unfold boundAndCalled
  rw [PySem.F.excAttr_ValueError.ga.bind (.ref x)]
  refine wpAny_bind (wpAny_pure ?_)
  show wpAny _ _ (call (.builtin "BaseException.__getattribute__") [.ref x, .str "__class__" t]) _ _ _
  refine wpAny_call (codeAny_call_builtin PySem.F.excAttr_ValueError.ga.plain PySem.F.entry_bexc_ga ?_)
  refine @check_slot (model prog w) _ _ ⟨hp, g, d, t + 1, os⟩ "BaseException.__getattribute__" "BaseException" "__getattribute__" (.ref x) [.str "__class__" t] [] _ (by decide +kernel) (by decide +kernel) sub (PySem.F.args_bexc_ga (.ref x) (.str "__class__" t)) ?_
  unfold Builtin.«object.__getattribute__»
  refine wpAny_bind (wpAny_of_eq (a := ((Value.ref x : Value), [Value.str "__class__" t])) (by first | rfl | (simp only [slotArgs]; rfl)) ?_)
  refine wpAny_bind (wpAny_pure (wpAny_bind (L0.at (wpAny_bind (L3.at ?_)))))
  show wpAny _ _ (holding [Value.builtin "object.__class__"] (call (.builtin "getset_descriptor.__get__") [.builtin "object.__class__", .ref x, .ref D]) >>= ret) _ _ _
  refine wpAny_bind (wpAny_holding (wpAny_call (class_get (s := ⟨hp, g, d, t + 1, os⟩) (ox := ox) (od := some od) X I hm ?_)))
  refine wpAny_pure ?_
  show wpAny _ _ (handedOut (.ref D)) _ _ _
  rw [handedOut_of (v := .ref D) rfl]
  first
    | exact wpAny_pure (wpAny_pure h)
    | exact wpAny_pure h
    | exact wpAny_pure (wpAny_bind (wpAny_pure (wpAny_pure h)))
theorem kitx_excX (hga : findIn K (.ref D) "__getattribute__" = some (some (.builtin "BaseException.__getattribute__"))) (hgt : findIn K (.ref D) "__getattr__" = some none) (hsub : subIn K (.ref D) (.type "BaseException") = some true) (hdct : hasDictIn K D = true) (ha : findIn K (.ref D) "__class__" = some (some (.builtin "object.__class__")))
    (hn : specialIn K (.builtin "object.__class__") "__get__" = some (some (.builtin "getset_descriptor.__get__"))) (htk : takesIn K (.builtin "object.__class__") = some true) (hm : mroIn K D (.type "object") = some true) :
    KitX K (.ref x) (.ref D) (fun h => InstAt h x ox D (some od)) where
  ty := fun _ _ _ I => I.type
  it := fun _ _ X _ => by
    obtain ⟨cdD, hcD, _⟩ := any_some hdct
    unfold clsIn at hcD
    split at hcD
    · rename_i c' d' cd' sl' ho
      intro A' Q' E' s' k q
      unfold isType loadHead
      exact wpAny_bind (wpAny_loadPart (k _ _ (X _ _ ho)) (wpAny_pure q))
    · cases hcD
  ne := (handS_kitx_exc (x := x) (ox := ox) hga hgt hsub hdct ha hn htk hm).ne
  ca := fun X I k => kin_classX hga hgt hsub hdct ha hn htk hm X I k
end
end PySem.W
namespace L2
open PySem PySem.Spec PyProof.Rows
/-- isinstance(e, c) or isinstance(e, (c1, ..)), e the error that the suite holds, its class cls, its dict d -/
def rIsX (K : PySem.W.Frag) (a : Addr) (cls : Value) (d : Option Addr) : List V → Hp → VK → Prop := fun xs H Q => ∃ (c : V) (C dd : Addr) (fs : List (Str × V)) (b : Bool), xs = [.ref a, c] ∧ cls = .ref C ∧ d = some dd ∧ H dd = some (.xd fs) ∧ ExcC K C ∧
  ((∃ cv, ClsV c cv ∧ PySem.W.kitOne K (.ref C) cv = some b) ∨ ∃ (tp : Addr) (cs : List V) (us : List Value), c = .ref tp ∧ H tp = some (.tup cs) ∧ Paired ClsV cs us ∧ PySem.W.kitAny K (.ref C) us = some b) ∧ Q (.bl b) H
theorem call_isX {X : Cx} {a : Addr} {oe : Obj} {cls : Value} {d : Option Addr} {pn : List (Addr × Obj)} (hz : Zc cls d oe) (hf : ∃ vs, oe.data = .fields vs) : CallR (X.suite a ((a, oe) :: pn)) (.builtin "isinstance") (rIsX X.K a cls d) := by
  intro pins s σ H xs us Q I r h
  obtain ⟨c, D, dd, fs, b, rfl, rfl, rfl, hdd, C, hc, q⟩ := h
  obtain ⟨u1, u2, rfl, r1, r2⟩ := vals2 r
  cases (show u1 = Value.ref a from r1)
  obtain ⟨hget, _⟩ := I.pin (a, oe) (List.mem_append.mpr (.inl List.mem_cons_self))
  obtain ⟨vs, hv⟩ := hf
  have hx : ObjOk X.prog X.w H s.heap dd (.xd fs) := I.hok dd _ hdd
  obtain ⟨mA, hns, _⟩ := hx
  obtain ⟨od, ho, _⟩ := lookIn_ns hns
  have J : PySem.W.InstAt s.heap a oe D (some od) := ⟨hget, hz.1, by unfold PySem.W.notCls; rw [hv] <;> rfl, by rw [hz.2]; exact ho⟩
  have Z := PySem.W.kitx_excX (x := a) (ox := oe) (od := od) C.hg C.hk C.hs C.hd C.ha C.hn C.ht C.hm
  rcases hc with ⟨cv, kc, e⟩ | ⟨tp, cs, ws, rfl, hT, k, e⟩
  · have e2 := kc.eq r2
    subst e2
    exact PySem.W.kia_one Z I.kIn J e (fun z => nomatch z) fun tk => ⟨.bl b, H, I.kept (t' := tk) fun _ _ z => z, rfl, q⟩
  · cases (show u2 = Value.ref tp from r2)
    obtain ⟨_, its, rv, o, h1, h2, n, h3⟩ := (show ObjOk X.prog X.w H s.heap tp (.tup cs) from I.hok tp _ hT)
    have e3 := ClsV.all k rv
    subst e3
    obtain ⟨oc, od', dt, sl⟩ := o
    simp only at h2 h3
    subst h2 h3
    exact PySem.W.kia_tup Z I.kIn J h1 e (fun z => nomatch z) fun tk => ⟨.bl b, H, I.kept (t' := tk) fun _ _ z => z, rfl, q⟩
/-! ### calls within a try: what may be let out, at the slots as they stand -/
section
variable {X : Cx} {CX : CXT} {k : Nat} {f C : Addr} {fd : FuncData} {ps : List Str} {sp : Sp} {dvs : List V} {ds : List Value} {E : St → XK} {x m : Str} {p pos apos : Pos} {e o : Expr} {es : List Expr} {ta : TE} {t : TA}
theorem run_fnT {pins : List (Addr × Obj)} {σ : St} {H : Hp} {s : Shared} {Q : VK} {us : List Value} {vs : List V} (F : FnOk X.prog X.w X.K X.mg X.base CX k f fd ps sp) (hr : Room k X.A) (hb : Binds X.K fd ps ds) (hd : Vals dvs ds) (hx : PassesAt CX X σ (E σ))
    (I : Inv X pins σ H s) (r : Vals vs us) (h : sp (vs ++ dvs) H Q (E σ)) : wpAny (model X.prog X.w) X.A (call (.ref f) us) (EP X pins σ Q) X.xe s := by
  have r2 : Vals (vs ++ dvs) (us ++ ds) := r.append hd
  have hl : (us ++ ds).length = ps.length := by rw [← r2.length]; exact F.len _ _ _ _ h
  refine wpAny_call (codeAny_mono (F.run X.A X.stack s H ⟨us, []⟩ (us ++ ds) (vs ++ dvs) Q (E σ) hr I.env0 (hb s us I.kIn hl) r2 h) fun r s' hq => ?_)
  cases r with
  | error e => exact hx pins H s e s' I hq
  | ok fl =>
    cases fl with
    | ret u => exact I.after hq
    | next => exact False.elim hq
    | brk => exact False.elim hq
    | cont => exact False.elim hq
def tMethT (C : Addr) (m : Str) (sp : Sp) (dvs : List V) (E : St → XK) (ta : TE) (t : TA) : TE := fun σ H Q => ta σ H fun x H1 => ∃ a dx fs, x = .ref a ∧ H1 a = some (.ins C dx fs) ∧ fs.lookup m = none ∧ t σ H1 fun vs H2 => sp (x :: (vs ++ dvs)) H2 Q (E σ)
theorem pe_methT {pl : Sem Bool} (he : PE X o ta) (c : Cls X.K C) (hm : Meth X.K C m f) (F : FnOk X.prog X.w X.K X.mg X.base CX k f fd ps sp) (hr : Room k X.A) (hb : Binds X.K fd ps ds) (hd : Vals dvs ds) (hx : ∀ σ, PassesAt CX X σ (E σ)) (ha : PA X (e :: es) t)
    (hst : starEach (e :: es) X.env = (false, eval e X.env) :: starEach es X.env := by rfl) (hpl : (backTo pos (starEach es X.env)).any (·.1) = false := by rfl)
    (ht : eval (.Call (.Attribute o m apos) (e :: es) [] pos) X.env = (do
      let ov ← eval o X.env
      standAt apos.atName
      let (f, first) ← holding [ov] (getMethod ov m pl)
      callWith pos f first (backTo pos (starEach (e :: es) X.env)) (backToKw pos (keywordEach [] X.env))) := by rfl) :
    PE X (.Call (.Attribute o m apos) (e :: es) [] pos) (tMethT C m sp dvs E ta t) := by
  refine ⟨fun pins s σ H Q I h => ?_⟩
  refine PySem.W.methodCall_KW (pl := pl) (thn (he.run pins s σ H _ I h) fun u s1 ⟨x, H1, I1, rx, a, dx, fs, ex, ea, l, q⟩ => ?_) ht
  subst ex
  obtain rfl : u = Value.ref a := rx
  refine getmeth_ok I1 ea c hm l ?_
  refine PySem.W.callWith_K (first := [.ref a]) (h₀ := X.base) I.ok.mod.kin hm.kp (thn (ha.run pos pins s1 σ H1 _ I1 q) fun us s2 ⟨vs, H2, I2, r, q2⟩ => ⟨I2.kIn, ?_⟩) hst hpl
  exact run_fnT (us := .ref a :: us) (vs := .ref a :: vs) F hr hb hd (hx σ) I2 (.cons rfl r) q2
def tMakeT (C : Addr) (sp : Sp) (dvs : List V) (E : St → XK) (t : TA) : TE := fun σ H Q => t σ H fun vs H1 => ∀ x dx, H1 x = none → H1 dx = none → dx ≠ x → sp (.ref x :: (vs ++ dvs)) (upd (upd H1 dx (.own x)) x (.ins C dx [])) (fun v H2 => v = .non ∧ Q (.ref x) H2) (E σ)
theorem pe_makeT (M : Mk X.K C f) (F : FnOk X.prog X.w X.K X.mg X.base CX k f fd ps sp) (hr : Room (k + 1) X.A) (hg : Gl X x) (hm : X.mg x = some (.ref C)) (hb : Binds X.K fd ps ds) (hd : Vals dvs ds) (hx : ∀ σ, PassesAt CX X σ (E σ))
    (ha : PA X (e :: es) t) (hdb : (x == ("__debug__" : Str)) = false := by decide) (he : starEach (e :: es) X.env = (false, eval e X.env) :: starEach es X.env := by rfl) (hpl : (backTo pos (starEach es X.env)).any (·.1) = false := by rfl) :
    PE X (.Call (.Name x p) (e :: es) [] pos) (tMakeT C sp dvs E t) := by
  refine ⟨fun pins s σ H Q I h => ?_⟩
  refine wpAny_Call_Name_kw (ld_glob I hg hm ?_ hdb)
  refine PySem.W.callWith_K (h₀ := X.base) I.ok.mod.kin M.kp (thn (ha.run pos pins s σ H _ I h) fun us s1 ⟨vs, H1, I1, r, h⟩ => ⟨I1.kIn, ?_⟩) he hpl
  have hq := h (s1.heap.objs.size + 1) s1.heap.objs.size (I1.hok.fresh (Nat.le_succ _)) (I1.hok.fresh (Nat.le_refl _)) (Nat.ne_of_lt (Nat.lt_succ_self _))
  have I2 := Inv.made (C := C) I1
  have r2 : Vals (V.ref (s1.heap.objs.size + 1) :: (vs ++ dvs)) (Value.ref (s1.heap.objs.size + 1) :: (us ++ ds)) := .cons rfl (r.append hd)
  have hl : (Value.ref (s1.heap.objs.size + 1) :: us ++ ds).length = ps.length := by
    have e := r2.length
    rw [F.len _ _ _ _ hq] at e
    exact e.symm
  refine wpAny_call (make_map (f := f) I1.kIn M.makes M.init (beq_iff_eq.mp M.fn) (codeAny_mono (F.run _ X.stack _ _ ⟨Value.ref (s1.heap.objs.size + 1) :: us, []⟩ (Value.ref (s1.heap.objs.size + 1) :: (us ++ ds)) _ _ (E σ) (hr.make C us [])
    (I2.env0.make C us []) (hb _ (Value.ref (s1.heap.objs.size + 1) :: us) I2.kIn hl) r2 hq) fun r s' hq' => ?_))
  cases r with
  | error e => exact hx σ pins _ _ e s' I2 hq'
  | ok fl =>
    cases fl with
    | ret u =>
      obtain ⟨v, H', I3, rv, ev, q3⟩ := I2.after hq'
      subst ev
      exact ⟨rv, ⟨V.ref (s1.heap.objs.size + 1), H', I3, rfl, q3⟩⟩
    | next => exact False.elim hq'
    | brk => exact False.elim hq'
    | cont => exact False.elim hq'
end
/-! ### an own error of one field -/
/-- X(v): self.f = v; what __init__ promises -/
def spErr (K : PySem.W.Frag) (f : Str) : Sp := fun vs H Q _ => ∃ (a C : Addr) (v : V), vs = [.ref a, v] ∧ H a = some (exo a C none) ∧ OexC K C ∧ PySem.W.findIn K (.ref C) f = some none ∧ ∀ dx, H dx = none → dx ≠ a → Q .non (upd (upd H dx (exd dx [(f, v)])) a (exo a C (some dx)))
theorem upd_del (H : Hp) (a d : Addr) (o1 o2 o3 o4 : HO) (ha : H a = none) (hd : d ≠ a) : upd (del (upd (upd (upd H a o1) d o2) a o3) a) d o4 = upd H d o4 := by
  funext b
  by_cases h : b = d
  · subst h
    rw [upd_same, upd_same]
  · rw [upd_ne h, upd_ne h]
    by_cases h2 : b = a
    · subst h2
      rw [del_same, ha]
    · rw [del_ne h2, upd_ne h2, upd_ne h, upd_ne h2]
theorem w_mkErr {K : PySem.W.Frag} {C : Addr} {f : Str} {ta : TA} {σ : St} {H : Hp} {Q : XK} (o : OexC K C) (n : PySem.W.findIn K (.ref C) f = some none) (q : ta σ H fun vs H1 => ∃ v, vs = [v] ∧ ∀ d, H1 d = none → Q (.ref C) (some d) (upd H1 d (.xd [(f, v)]))) (hm : ∀ {QA QB : List V → Hp → Prop}, (∀ vs H1, QA vs H1 → QB vs H1) → ta σ H QA → ta σ H QB) : tMkO C (spErr K f) [] ta σ H Q := by
  refine hm (fun vs H1 ⟨v, ev, hq⟩ => ?_) q
  subst ev
  refine ⟨by show 1 ≤ 1000; omega, fun a ha => ⟨a, C, v, rfl, upd_same, o, n, fun dx hdx hne => ?_⟩⟩
  rw [upd_ne hne] at hdx
  refine ⟨rfl, dx, [(f, v)], upd_same, (upd_ne hne).trans upd_same, hdx, ?_⟩
  rw [upd_del H1 a dx _ _ _ _ ha hne]
  exact hq dx hdx
end L2

namespace L2
open PySem PySem.Spec PyProof.Rows
/-! ### own errors: what is asked of their classes; readings -/
structure ErrN (K : PySem.W.Frag) (C : Addr) : Prop where
  isc : PySem.W.isClsIn K C = true
  typ : PySem.W.typeIn K (.ref C) = some (.type "type")
  exB : PySem.W.subIn K (.ref C) (.type "BaseException") = some true
  hd : PySem.W.hasDictIn K C = true
section
variable {K : PySem.W.Frag} {C D : Addr} {H : Hp} {Q : VK} {b : Bool} {a dd : Addr} {fs : List (Str × V)} {σ : St}
theorem kit_sub (e : ErrN K D) (self : PySem.W.subIn K (.ref C) (.ref C) = some true) (h : PySem.W.subIn K (.ref C) (.ref D) = some b) : PySem.W.kitOne K (.ref C) (.ref D) = some b := by
  unfold PySem.W.kitOne
  by_cases q : C = D
  · subst q
    rw [self] at h
    cases h
    exact if_pos (beq_self_eq_true _)
  · rw [if_neg (by intro z; exact q (Value.ref.inj (beq_iff_eq.mp z)))]
    have h1' : (PySem.W.clsIn K D).isSome = true := e.isc
    show (if ((PySem.W.clsIn K D).isSome && PySem.W.typeIn K (.ref D) == some (.type "type")) = true then PySem.W.subIn K (.ref C) (.ref D) else none) = some b
    rw [if_pos (by rw [h1', e.typ]; rfl)]
    exact h
theorem kit_VE (h : PySem.W.subIn K (.ref C) (.type "ValueError") = some true) : PySem.W.kitOne K (.ref C) (.type "ValueError") = some true := by
  unfold PySem.W.kitOne
  rw [if_neg (by intro z; cases (beq_iff_eq.mp z))]
  show (if PySem.W.kitMeta "ValueError" = true then PySem.W.subIn K (.ref C) (.type "ValueError") else none) = some true
  rw [if_pos (by decide +kernel)]
  exact h
theorem kit_nil : PySem.W.kitAny K (.ref C) [] = some false := rfl
theorem kit_cons {c : Value} {r : List Value} (h : PySem.W.kitOne K (.ref C) c = some false) (h2 : PySem.W.kitAny K (.ref C) r = some b) : PySem.W.kitAny K (.ref C) (c :: r) = some b := by
  unfold PySem.W.kitAny
  rw [h]
  exact h2
theorem kit_hit {c : Value} {r : List Value} (h : PySem.W.kitOne K (.ref C) c = some true) : PySem.W.kitAny K (.ref C) (c :: r) = some true := by
  unfold PySem.W.kitAny
  rw [h]
theorem exm_sub (e : ErrN K D) (h : PySem.W.subIn K (.ref C) (.ref D) = some b) : PySem.W.exmOne K (.ref C) (.ref D) = some b := PySem.W.exm_ref e.exB e.hd e.typ h
theorem w_isX (hd : H dd = some (.xd fs)) (ec : ExcC K C) (e : ErrN K D) (self : PySem.W.subIn K (.ref C) (.ref C) = some true) (h : PySem.W.subIn K (.ref C) (.ref D) = some b) (q : Q (.bl b) H) : rIsX K a (.ref C) (some dd) [.ref a, .ref D] H Q :=
  ⟨_, C, dd, fs, b, rfl, rfl, rfl, hd, ec, .inl ⟨_, .own D, kit_sub e self h⟩, q⟩
theorem w_isXV (hd : H dd = some (.xd fs)) (ec : ExcC K C) (h : PySem.W.subIn K (.ref C) (.type "ValueError") = some true) (q : Q (.bl true) H) : rIsX K a (.ref C) (some dd) [.ref a, .ty "ValueError"] H Q :=
  ⟨_, C, dd, fs, true, rfl, rfl, rfl, hd, ec, .inl ⟨_, .ty _, kit_VE h⟩, q⟩
theorem w_isXT {tp : Addr} {cs : List V} {us : List Value} (hd : H dd = some (.xd fs)) (ec : ExcC K C) (ht : H tp = some (.tup cs)) (hp : Paired ClsV cs us) (hk : PySem.W.kitAny K (.ref C) us = some b) (q : Q (.bl b) H) : rIsX K a (.ref C) (some dd) [.ref a, .ref tp] H Q :=
  ⟨_, C, dd, fs, b, rfl, rfl, rfl, hd, ec, .inr ⟨tp, cs, us, rfl, ht, hp, hk⟩, q⟩
theorem w_xf {f : Str} {te : TE} {v : V} (q : te σ H fun x H1 => x = .ref a ∧ H1 dd = some (.xd fs) ∧ fs.lookup f = some v ∧ Q v H1) (hm : ∀ {QA QB : VK}, (∀ x H1, QA x H1 → QB x H1) → te σ H QA → te σ H QB) : tXf a (.ref C) (some dd) C f te σ H Q :=
  hm (fun _ _ ⟨h1, h2, h3, h4⟩ => ⟨h1, rfl, dd, fs, v, rfl, h2, h3, h4⟩) q
theorem w_xfV {f : Str} {i : Nat} {v : V} (hi : σ[i]? = some (some (.ref a))) (hd : H dd = some (.xd fs)) (hl : fs.lookup f = some v) (q : Q v H) : tXf a (.ref C) (some dd) C f (tVar i) σ H Q :=
  ⟨.ref a, hi, rfl, rfl, dd, fs, v, rfl, hd, hl, q⟩
theorem w_mkErrV {f : Str} {i : Nat} {v : V} {QX : XK} (o : OexC K C) (n : PySem.W.findIn K (.ref C) f = some none) (h : σ[i]? = some (some v)) (q : ∀ d, H d = none → QX (.ref C) (some d) (upd H d (.xd [(f, v)]))) : tMkO C (spErr K f) [] (tCons (tVar i) tNil) σ H QX :=
  w_mkErr o n ⟨v, h, ⟨v, rfl, q⟩⟩ fun hq ⟨x, hx, z⟩ => ⟨x, hx, hq _ _ z⟩
end
end L2

namespace PySem
open Sem (wp)
/-! ### max of two or more whole numbers -/
section
variable {prog : Program} {w : World} {A : Around} {E : Value → Shared → Prop} {s : Shared}
/-- ps: the arguments' numbers; the answer stands at a place i with no greater number -/
theorem max_of_ints {ps : Array (Int × Tok)} {a b : Value} {r : List Value} {Q : Value → Shared → Prop} (hA : A.handled = none) (he : a :: b :: r = (intItems ps).toList) (hz : ps.size ≤ 1000) (hargs : argsOk "max" ⟨a :: b :: r, []⟩)
    (q : ∀ h' tk i v, i < ps.size → (∀ j, j < ps.size → numAt ps j ≤ numAt ps i) → (intItems ps)[i]? = some v → (∀ x o, s.heap.get? x = some o → h'.get? x = some o) → Q v { s with heap := h', toks := tk }) :
    wpAny (model prog w) A (call (.builtin "max") (a :: b :: r)) Q E s := by
  have harr : (a :: b :: r).toArray = intItems ps := by rw [he, Array.toArray_toList]
  have hsize : (intItems ps).size = ps.size := by simp [intItems]
  have hlen : (a :: b :: r).length = ps.size := by rw [he, Array.length_toList, hsize]
  have hloop : (toString "max" ++ toString ".loop" : String) = "max.loop" := rfl
  -- the arguments are laid into a tuple, a list for the best one stands beside it
  refine call_function_tree F.kind_max F.plain_max F.entry_max hargs (wpAny_bind (wpAny_of_eq (a := [none, none]) rfl ?_))
  show wpAny _ A.in1 (newTuple (a :: b :: r) >>= _) _ _ s
  refine wpAny_bind (wpAny_newObj_type ?_ (by show (a :: b :: r).toArray.size ≤ sizeLine; rw [List.size_toArray, hlen, sizeLine_eq]; omega))
  let T : Obj := { cls := .type "tuple", data := .seq (a :: b :: r).toArray }
  have eT : (s.heap.push T).get? s.heap.objs.size = some T := Heap.get?_push_size _ rfl
  have sz1 : (s.heap.push T).objs.size = s.heap.objs.size + 1 := Heap.size_push ..
  have tup : (s.heap.push T).IsTuple s.heap.objs.size (intItems ps) := ⟨T, eT, rfl, 0, by rw [← harr]⟩
  refine wpAny_bind (wpAny_pyIter_tuple tup (wpAny_bind (wpAny_newObj_type ?_)))
  rw [hloop]
  have wk := Walks.tuple (A := A.in1) (prog := prog) (w := w) hA (s.heap.push T).objs.size s.heap.objs.size (by rw [sz1]; exact Nat.ne_of_lt (Nat.lt_succ_self _)) (intItems ps)
  refine wpAny_pure ⟨plainId_quiet F.plain_max_loop _, ?_⟩
  refine codeAny_max_loop_first wk _ (CmpOf.ints_gt (numAt ps) fun _ _ => intItems_at) _ ?_ (by rw [hsize, ← hlen]; exact Nat.succ_pos _) (wk.frame _ _ _ ⟨⟨_, Heap.get?_push_size _ rfl, rfl, rfl⟩, tup.push _⟩ fun x _ o e => Heap.get?_push_of_some _ e) (Heap.get?_push_size _ rfl) fun v h' tk hP hk => ?_
  · intro hm
    rcases List.mem_cons.mp hm with e | hm
    · rw [Heap.size_push] at e
      exact absurd e (Nat.ne_of_gt (Nat.lt_succ_self _))
    · have e := List.mem_singleton.mp hm
      rw [Heap.size_push, sz1] at e
      exact absurd e (Nat.ne_of_gt (Nat.lt_of_lt_of_le (Nat.lt_succ_self _) (Nat.le_succ _)))
  · obtain ⟨b1, b2⟩ := argBest_gt (numAt ps) (ps.size - 1)
    rw [hsize] at hP
    have h0 : 0 < ps.size := by rw [← hlen]; exact Nat.succ_pos _
    refine q h' tk _ v (Nat.lt_of_le_of_lt b1 (Nat.sub_lt h0 Nat.one_pos)) (fun j hj => b2 j (Nat.le_sub_one_of_lt hj)) hP fun x o e => ?_
    have hx := Heap.lt_size e
    refine hk x o (fun hm => ?_) (fun z => ?_) (Heap.get?_push_of_some _ (Heap.get?_push_of_some _ (Heap.get?_push_of_some _ e)))
    · rw [List.mem_singleton.mp hm, sz1] at hx
      exact absurd hx (Nat.not_lt.mpr (Nat.le_succ _))
    · rw [z, Heap.size_push, sz1] at hx
      exact absurd hx (Nat.not_lt.mpr (Nat.le_trans (Nat.le_succ _) (Nat.le_succ _)))
theorem max4_args (a b c d : Value) : argsOk "max" ⟨[a, b, c, d], []⟩ := by
  unfold argsOk
  kernel_rfl
end
end PySem
namespace L2
open PySem PySem.Spec PyProof.Rows
def rMax4 : List V → Hp → VK → Prop := fun xs H Q => ∃ i j k l, xs = [.int i, .int j, .int k, .int l] ∧ ∀ m, i ≤ m → j ≤ m → k ≤ m → l ≤ m → (m = i ∨ m = j ∨ m = k ∨ m = l) → Q (.int m) H
theorem call_max4 {X : Cx} (hc : X.calm = true) : CallR X (.builtin "max") rMax4 := by
  intro pins s σ H xs us Q I r h
  obtain ⟨i, j, k, l, rfl, q⟩ := h
  cases r with
  | cons r1 r =>
    cases r with
    | cons r2 r =>
      obtain ⟨u3, u4, rfl, r3, r4⟩ := vals2 r
      obtain ⟨t1, rfl⟩ := r1
      obtain ⟨t2, rfl⟩ := r2
      obtain ⟨t3, rfl⟩ := r3
      obtain ⟨t4, rfl⟩ := r4
      refine PySem.max_of_ints (ps := #[(i, t1), (j, t2), (k, t3), (l, t4)]) (I.ok.hd hc) (by simp [intItems]) (by show 4 ≤ 1000; omega) (PySem.max4_args _ _ _ _) fun h' tk m v hm hle hv hk => ?_
      have g0 : i ≤ numAt #[(i, t1), (j, t2), (k, t3), (l, t4)] m := hle 0 (by show 0 < 4; omega)
      have g1 : j ≤ numAt #[(i, t1), (j, t2), (k, t3), (l, t4)] m := hle 1 (by show 1 < 4; omega)
      have g2 : k ≤ numAt #[(i, t1), (j, t2), (k, t3), (l, t4)] m := hle 2 (by show 2 < 4; omega)
      have g3 : l ≤ numAt #[(i, t1), (j, t2), (k, t3), (l, t4)] m := hle 3 (by show 3 < 4; omega)
      match m, hm, g0, g1, g2, g3, hv with
      | 0, _, g0, g1, g2, g3, hv =>
        have ev : v = .int i t1 := by simpa [intItems] using hv.symm
        subst ev
        exact ⟨.int i, H, I.kept hk, ⟨_, rfl⟩, q _ g0 g1 g2 g3 (.inl rfl)⟩
      | 1, _, g0, g1, g2, g3, hv =>
        have ev : v = .int j t2 := by simpa [intItems] using hv.symm
        subst ev
        exact ⟨.int j, H, I.kept hk, ⟨_, rfl⟩, q _ g0 g1 g2 g3 (.inr (.inl rfl))⟩
      | 2, _, g0, g1, g2, g3, hv =>
        have ev : v = .int k t3 := by simpa [intItems] using hv.symm
        subst ev
        exact ⟨.int k, H, I.kept hk, ⟨_, rfl⟩, q _ g0 g1 g2 g3 (.inr (.inr (.inl rfl)))⟩
      | 3, _, g0, g1, g2, g3, hv =>
        have ev : v = .int l t4 := by simpa [intItems] using hv.symm
        subst ev
        exact ⟨.int l, H, I.kept hk, ⟨_, rfl⟩, q _ g0 g1 g2 g3 (.inr (.inr (.inr rfl)))⟩
      | m + 4, hm, _, _, _, _, _ => exact absurd hm (by show ¬ m + 4 < 4; omega)
theorem w_max4 {i j k l : Int} {H : Hp} {Q : VK} (q : ∀ m, i ≤ m → j ≤ m → k ≤ m → l ≤ m → (m = i ∨ m = j ∨ m = k ∨ m = l) → Q (.int m) H) : rMax4 [.int i, .int j, .int k, .int l] H Q := ⟨i, j, k, l, rfl, q⟩
theorem w_makeT {C : Addr} {sp : Sp} {dvs : List V} {E : L2.St → XK} {t : TA} {σ : L2.St} {H : Hp} {Q : VK} (q : t σ H fun vs H1 => ∀ x dx, H1 x = none → H1 dx = none → dx ≠ x → sp (.ref x :: (vs ++ dvs)) (upd (upd H1 dx (.own x)) x (.ins C dx [])) (fun v H2 => v = .non ∧ Q (.ref x) H2) (E σ)) : tMakeT C sp dvs E t σ H Q := q
end L2

namespace My
open PySem PySem.Spec PyProof.Rows L2
/-! ### sums of the first ones -/
def pre (ns : List Int) (j : Nat) : Int := (ns.take j).sum
theorem pre_zero (ns : List Int) : pre ns 0 = 0 := by simp [pre]
theorem pre_all (ns : List Int) : pre ns ns.length = ns.sum := by simp [pre]
theorem pre_succ {ns : List Int} {j : Nat} (h : j < ns.length) : pre ns (j + 1) = pre ns j + nth ns (j : Nat) := by
  have e : ns[j]? = some (nth ns (j : Nat)) := by
    rw [nth_nat, List.getD_eq_getElem?_getD, List.getElem?_eq_getElem h]
    rfl
  exact sum_take e
theorem pre_le {ns : List Int} (hn : ∀ x ∈ ns, (0 : Int) ≤ x) {i j : Nat} (h : i ≤ j) (hj : j ≤ ns.length) : pre ns i ≤ pre ns j := by
  induction j with
  | zero =>
    have : i = 0 := by omega
    subst this
    exact Int.le_refl _
  | succ j ih =>
    by_cases e : i = j + 1
    · subst e; exact Int.le_refl _
    · have h1 := ih (by omega) (by omega)
      have h2 := pre_succ (ns := ns) (j := j) (by omega)
      have h3 := hn _ (nth_mem (ns := ns) (i := (j : Nat)) (by omega) (by omega))
      omega

/-! ### fractions as core's rationals -/
theorem div_num {a b : Int} (hb : 0 < b) : (Rat.divInt a b).num = a / ((Nat.gcd a.natAbs b.natAbs : Nat) : Int) := by
  rw [Rat.num_divInt, Int.sign_eq_one_of_pos hb, Int.one_mul]
  show a / ((Nat.gcd b.natAbs a.natAbs : Nat) : Int) = _
  rw [Nat.gcd_comm]
theorem div_den {a b : Int} (hb : 0 < b) : ((Rat.divInt a b).den : Int) = b / ((Nat.gcd a.natAbs b.natAbs : Nat) : Int) := by
  rw [Rat.den_divInt, if_neg (by omega)]
  show ((b.natAbs / Nat.gcd b.natAbs a.natAbs : Nat) : Int) = _
  rw [Nat.gcd_comm, Int.natCast_ediv, Int.natAbs_of_nonneg (by omega)]
theorem fdiv_pos {a b : Int} (hb : 0 < b) : a.fdiv b = a / b := Int.fdiv_eq_ediv_of_nonneg a (by omega)
theorem fdiv_neg {a b : Int} (hb : 0 < b) : a.fdiv (-b) = (-a) / b := by
  rw [← fdiv_pos hb, ← Int.neg_fdiv_neg, Int.neg_neg]
/-- both less than 2 ^ n -/
def RB (n : Nat) (q : Rat) : Prop := q.num.natAbs < 2 ^ n ∧ q.den < 2 ^ n
theorem div_le (a b : Nat) : a / b ≤ a := Nat.div_le_self a b
theorem RB.div {a b : Int} {n : Nat} (hb : 0 < b) (h1 : a.natAbs < 2 ^ n) (h2 : b.natAbs < 2 ^ n) : RB n (Rat.divInt a b) := by
  constructor
  · rw [div_num hb]
    have : (a / ((Nat.gcd a.natAbs b.natAbs : Nat) : Int)).natAbs ≤ a.natAbs := Int.natAbs_ediv_le_natAbs a _
    omega
  · rw [Rat.den_divInt, if_neg (by omega)]
    have := div_le b.natAbs (b.gcd a)
    omega
theorem RB.mul {p q : Rat} {n m : Nat} (h1 : RB n p) (h2 : RB m q) : RB (n + m) (p * q) := by
  have e : p * q = Rat.divInt (p.num * q.num) ((p.den : Int) * (q.den : Int)) := by
    rw [← Rat.divInt_mul_divInt, Rat.num_divInt_den, Rat.num_divInt_den]
  have d1 := Nat.pos_of_ne_zero p.den_nz
  have d2 := Nat.pos_of_ne_zero q.den_nz
  rw [e]
  refine RB.div (by have := Nat.mul_pos d1 d2; rw [← Int.natCast_mul]; omega) ?_ ?_
  · rw [Int.natAbs_mul, Nat.pow_add]
    exact Nat.mul_lt_mul'' h1.1 h2.1
  · rw [← Int.natCast_mul, Int.natAbs_natCast, Nat.pow_add]
    exact Nat.mul_lt_mul'' h1.2 h2.2
theorem RB.mono {p : Rat} {n m : Nat} (h : RB n p) (hl : n ≤ m) : RB m p :=
  ⟨Nat.lt_of_lt_of_le h.1 (Nat.pow_le_pow_right (by omega) hl), Nat.lt_of_lt_of_le h.2 (Nat.pow_le_pow_right (by omega) hl)⟩
theorem mul_parts (p q : Rat) : p * q = Rat.divInt (p.num * q.num) ((p.den : Int) * (q.den : Int)) := by
  rw [← Rat.divInt_mul_divInt, Rat.num_divInt_den, Rat.num_divInt_den]
theorem add_parts (p q : Rat) : p + q = Rat.divInt (p.num * (q.den : Int) + q.num * (p.den : Int)) ((p.den : Int) * (q.den : Int)) := by
  have d1 := p.den_nz
  have d2 := q.den_nz
  rw [← Rat.divInt_add_divInt _ _ (by omega) (by omega), Rat.num_divInt_den, Rat.num_divInt_den]
theorem den_mul (p q : Rat) : (0 : Int) < (p.den : Int) * (q.den : Int) := by
  have d1 := Nat.pos_of_ne_zero p.den_nz
  have d2 := Nat.pos_of_ne_zero q.den_nz
  have := Nat.mul_pos d1 d2
  rw [← Int.natCast_mul]; omega
theorem add_same {a b t : Int} (ht : t ≠ 0) : Rat.divInt a t + Rat.divInt b t = Rat.divInt (a + b) t := by
  rw [Rat.divInt_add_divInt _ _ ht ht, ← Int.add_mul, Int.mul_comm (a + b) t, Rat.divInt_mul_left ht]
theorem div_all {t : Int} (ht : t ≠ 0) : Rat.divInt t t = 1 := by
  have h := Rat.divInt_mul_left (n := 1) (d := 1) ht
  rw [Int.mul_one] at h
  rw [h]; rfl
theorem zero_div' (t : Int) : Rat.divInt 0 t = 0 := Rat.zero_divInt t
/-- Euclid, two steps halve -/
theorem euc_half {a b : Nat} (hb : 0 < b) (h : b ≤ a) : 2 * (a % b) ≤ a := by
  have h1 := Nat.mod_lt a hb
  have h2 := Nat.div_add_mod a b
  have h3 : 1 ≤ a / b := (Nat.le_div_iff_mul_le hb).mpr (by omega)
  have h4 : b * 1 ≤ b * (a / b) := Nat.mul_le_mul_left b h3
  omega
theorem gcd_step (a b : Nat) : Nat.gcd b (a % b) = Nat.gcd a b := by
  rw [Nat.gcd_comm a b, Nat.gcd_rec b a, Nat.gcd_comm]

/-! ### one step of a reading; the closers -/
local macro_rules | `(tactic| walk_at "same") => `(tactic| first
  | assumption
  | exact Same.refl _
  | (refine Same.trans ?_ (Same.new (by assumption)); walk_at "same")
  | (refine Same.mut ?_ (by assumption); walk_at "same")
  | (refine Same.trans (H1 := _) ?_ (by assumption); walk_at "same"))
local macro_rules | `(tactic| walk_at "at") => `(tactic| first
  | assumption
  | exact upd_same
  | (refine Same.at ?_ (by assumption); walk_at "same"))
local macro_rules | `(tactic| walk_at "sq") => `(tactic| first
  | assumption
  | exact Sq.lst (by walk_at "at")
  | exact Sq.tup (by walk_at "at")
  | (refine Same.sq ?_ (by assumption); walk_at "same"))
local macro_rules | `(tactic| walk_at "lk") => `(tactic| first
  | exact lk_here
  | (refine lk_next (by decide +kernel) ?_; walk_at "lk")
  | exact rfl)
local macro_rules | `(tactic| walk_at "pf") => `(tactic| first
  | exact pf_here
  | (apply pf_next (by decide +kernel); walk_at "pf")
  | exact pf_nil)
local macro_rules | `(tactic| walk_at "num") => `(tactic| first
  | omega
  | assumption
  | (unfold CMul; omega)
  | (unfold CDiv; omega)
  | (unfold CPow; refine ⟨?_, ?_, ?_⟩ <;> first | omega | decide)
  | decide
  | (simp only [List.length_append, List.length_cons, List.length_nil, List.length_map, List.length_range] at *; omega))
local macro_rules | `(tactic| walk_at "vv") => `(tactic| first
  | exact tape_cells
  | exact tape_at
  | exact tape_great
  | exact tape_left
  | exact tape_seed
  | exact tape_turn
  | exact val_pos
  | (refine (val_neg (by decide +kernel)).trans ?_; walk_at "vv"))
local macro_rules | `(tactic| walk_at "pp") => `(tactic| first
  | exact tape_setAt
  | exact tape_setGreat
  | exact tape_setLeft
  | exact tape_setSeed
  | exact tape_setTurn)
local macro_rules | `(tactic| walk_at "dl") => `(tactic| first
  | exact tape_len
  | (show _ < 1000; simp only [List.length_cons, List.length_nil]; omega))
local macro_rules | `(tactic| walk_at "go1") => `(tactic| first
  | with_reducible refine w_var rfl ?_
  | with_reducible refine w_seq ?_
  | with_reducible refine w_asg ?_
  | with_reducible refine w_gName ?_
  | with_reducible refine w_nx ?_
  | with_reducible refine w_c ?_
  | with_reducible refine w_op ?_
  | with_reducible refine w_I0 ?_
  | with_reducible refine w_addI ?_
  | with_reducible refine w_cb ?_
  | with_reducible refine w_aCons ?_
  | with_reducible refine w_aNil ?_
  | with_reducible refine w_int1 ?_
  | with_reducible refine w_int1b ?_
  | ((with_reducible refine w_I ?_ ?_); (· walk_at "num"))
  | with_reducible refine w_test ?_
  | with_reducible refine w_exb ?_
  | with_reducible refine w_exi ?_
  | with_reducible refine w_ifS ?_
  | with_reducible refine w_tru ?_
  | with_reducible refine w_truB ?_
  | with_reducible refine w_eqI ?_
  | with_reducible refine w_neI ?_
  | with_reducible refine iteT ?_
  | with_reducible refine iteF ?_
  | with_reducible refine w_not ?_
  | with_reducible refine w_and ?_
  | with_reducible refine w_or ?_
  | with_reducible refine w_iteNT ?_
  | with_reducible refine w_iteNF ?_
  | with_reducible refine w_rt ?_
  | with_reducible refine w_ret ?_
  | with_reducible refine w_retN ?_
  | with_reducible refine w_next ?_
  | with_reducible refine w_drop ?_
  | with_reducible refine w_augI rfl ?_
  | with_reducible refine w_ipI ?_
  | with_reducible refine w_un ?_
  | with_reducible refine w_rU ?_
  | with_reducible refine w_abs ?_
  | with_reducible refine w_max2 ?_
  | with_reducible refine w_min2 ?_
  | with_reducible refine w_call ?_
  | with_reducible refine w_tB ?_
  | with_reducible refine w_bm ?_
  | ((with_reducible show tyV _ "list" (V.ref _) _ ∧ _); refine w_tyL (by walk_at "sq") ?_)
  | ((with_reducible show rIx _ (V.ref _) (V.int _) _ _); refine w_ixI (by walk_at "sq") (by walk_at "num") (by walk_at "num") ?_)
  | ((with_reducible show rSumS _ [V.ref _] _ _); refine w_sumI (by walk_at "sq") ?_)
  | ((with_reducible show rLenS _ [V.ref _] _ _); refine w_lenI (by walk_at "sq") ?_)
  | ((with_reducible show rLenS _ [V.ref _] _ _); refine w_lenS (by walk_at "sq") ?_)
  | with_reducible refine w_isNn ?_
  | with_reducible refine w_isNi ?_
  | with_reducible refine w_isNb ?_
  | with_reducible refine w_isNs ?_
  | with_reducible refine w_isNr ?_
  | with_reducible refine w_notNn ?_
  | with_reducible refine w_notNi ?_
  | with_reducible refine w_notNb ?_
  | with_reducible refine w_notNs ?_
  | with_reducible refine w_notNr ?_
  | with_reducible refine w_lstD ?_
  | with_reducible refine w_tupD ?_
  | with_reducible refine w_sl ?_
  | with_reducible refine w_noPart ?_
  | with_reducible refine w_part ?_
  | with_reducible refine w_for ?_
  | with_reducible refine w_iRng1 ?_
  | with_reducible refine w_iRng2 ?_
  | with_reducible refine w_iSeq ?_
  | with_reducible refine w_iEnumS ?_
  | with_reducible refine w_andV ?_
  | with_reducible refine w_orV ?_
  | with_reducible refine w_notV ?_
  | with_reducible refine w_ifE ?_
  | with_reducible refine w_brk ?_
  | with_reducible refine w_cont ?_
  | with_reducible refine w_gSub ?_
  | with_reducible refine w_lc ?_
  | with_reducible refine w_iZipS ?_
  | with_reducible refine w_fld ?_
  | ((with_reducible show ∃ a C dx fs v, V.ref _ = V.ref a ∧ _ ∧ Cls _ _ ∧ NoAttr _ _ _ ∧ _ ∧ _); refine w_fldAt (by walk_at "at") (by assumption) (by assumption) (by walk_at "lk") ?_)
  | with_reducible refine w_sfld ?_
  | ((with_reducible show ∃ a C dx fs, V.ref _ = V.ref a ∧ _ ∧ Cls _ _ ∧ NoAttr _ _ _ ∧ _ ∧ _); refine w_sfldAt (by walk_at "at") (by assumption) (by assumption) (by show _ < 1000; simp only [List.length_cons, List.length_nil]; omega) (by walk_at "pf") ?_)
  | with_reducible refine w_meth ?_
  | ((with_reducible show ∃ a dx fs, V.ref _ = V.ref a ∧ _ ∧ _ ∧ _); refine w_methAt (by walk_at "at") (by walk_at "lk") ?_)
  | with_reducible refine w_make ?_
  | with_reducible refine w_chain ?_
  | with_reducible refine w_dget ?_
  | ((with_reducible show ∃ a v, V.ref _ = V.ref a ∧ DGet _ a (V.str _) (some v) ∧ _); refine w_dgetAt (by walk_at "at") (by walk_at "vv") ?_)
  | ((with_reducible show ∃ a H4, V.ref _ = V.ref a ∧ DPut _ a (V.str _) _ H4 ∧ _); refine w_dputAt (by walk_at "at") (by walk_at "dl") (by walk_at "pp") ?_)
  | with_reducible refine w_dput ?_
  | with_reducible refine w_disp ?_
  | with_reducible refine w_prop ?_
  | ((with_reducible show ∃ a dx fs, V.ref _ = V.ref a ∧ _ ∧ _); refine w_propAt (by walk_at "at") ?_)
  | with_reducible refine w_lstRg ?_
  | with_reducible refine w_tupRg ?_
  | with_reducible refine w_rg1 ?_
  | with_reducible refine w_rg2 ?_
  | with_reducible refine w_augS ?_
  | ((with_reducible show rGetL (V.ref _) (V.int _) _ _); refine w_getI (by walk_at "at") (by walk_at "num") (by walk_at "num") ?_)
  | with_reducible refine w_pair0 ?_
  | with_reducible refine w_pair1 ?_
  | with_reducible refine w_bk ?_
  | with_reducible refine w_ct ?_)
local macro_rules | `(tactic| walk_at "go") => `(tactic| repeat walk_at "go1")

def topS (i : Nat) : Stmt := PySem.Challenge.pw_servedalone_k58_shares.main.body.getD i (.Pass ⟨0, 0, 0, 0⟩)
abbrev s_InvalidNumber___init__ : Stmt := inClass (topS 2) 0
abbrev s_InvalidLetter___init__ : Stmt := inClass (topS 3) 0
abbrev s_NoRoom___init__ : Stmt := inClass (topS 4) 0
abbrev s_NotHeld___init__ : Stmt := inClass (topS 5) 0
abbrev s_NotAlone___init__ : Stmt := inClass (topS 6) 0
abbrev s_NoRequest___init__ : Stmt := inClass (topS 7) 0
abbrev s_NoHouse___init__ : Stmt := inClass (topS 8) 0
abbrev s_TooLarge___init__ : Stmt := inClass (topS 9) 0
abbrev s_greatest_divisor : Stmt := topS 11
abbrev s_Share___init__ : Stmt := inClass (topS 12) 0
abbrev s_Share___add__ : Stmt := inClass (topS 12) 1
abbrev s_Share___sub__ : Stmt := inClass (topS 12) 2
abbrev s_Share___mul__ : Stmt := inClass (topS 12) 3
abbrev s_Share___eq__ : Stmt := inClass (topS 12) 4
abbrev s_Share_is_below : Stmt := inClass (topS 12) 5
abbrev s_lesser_of : Stmt := topS 13
abbrev s_L_numbers : Stmt := topS 15
abbrev s_L_same : Stmt := topS 16
abbrev s_L_common : Stmt := topS 17
abbrev s_L_least : Stmt := topS 18
abbrev s_L_plus : Stmt := topS 19
abbrev s_L_by : Stmt := topS 20
abbrev s_L_is_share : Stmt := topS 21
abbrev s_L_integer : Stmt := topS 22
abbrev s_L_fraction : Stmt := topS 23
abbrev s_L_refuses : Stmt := topS 24
abbrev s_L_is_below : Stmt := topS 25
abbrev s_L_pair : Stmt := topS 26
abbrev s_law : Stmt := topS 27
theorem sc_InvalidNumber___init__ : FnScope ["self", "number"] ["self", "number"] (defScope s_InvalidNumber___init__) := ⟨rfl, rfl, rfl, by decide +kernel, rfl, by decide +kernel, by decide +kernel⟩
theorem sc_InvalidLetter___init__ : FnScope ["self", "letter"] ["self", "letter"] (defScope s_InvalidLetter___init__) := ⟨rfl, rfl, rfl, by decide +kernel, rfl, by decide +kernel, by decide +kernel⟩
theorem sc_NoRoom___init__ : FnScope ["self", "many"] ["self", "many"] (defScope s_NoRoom___init__) := ⟨rfl, rfl, rfl, by decide +kernel, rfl, by decide +kernel, by decide +kernel⟩
theorem sc_NotHeld___init__ : FnScope ["self", "block"] ["self", "block"] (defScope s_NotHeld___init__) := ⟨rfl, rfl, rfl, by decide +kernel, rfl, by decide +kernel, by decide +kernel⟩
theorem sc_NotAlone___init__ : FnScope ["self", "block"] ["self", "block"] (defScope s_NotAlone___init__) := ⟨rfl, rfl, rfl, by decide +kernel, rfl, by decide +kernel, by decide +kernel⟩
theorem sc_NoRequest___init__ : FnScope ["self", "ticket"] ["self", "ticket"] (defScope s_NoRequest___init__) := ⟨rfl, rfl, rfl, by decide +kernel, rfl, by decide +kernel, by decide +kernel⟩
theorem sc_NoHouse___init__ : FnScope ["self", "house"] ["self", "house"] (defScope s_NoHouse___init__) := ⟨rfl, rfl, rfl, by decide +kernel, rfl, by decide +kernel, by decide +kernel⟩
theorem sc_TooLarge___init__ : FnScope ["self", "ticket"] ["self", "ticket"] (defScope s_TooLarge___init__) := ⟨rfl, rfl, rfl, by decide +kernel, rfl, by decide +kernel, by decide +kernel⟩
theorem sc_greatest_divisor : FnScope ["one", "two"] ["one", "two"] (defScope s_greatest_divisor) := ⟨rfl, rfl, rfl, by decide +kernel, rfl, by decide +kernel, by decide +kernel⟩
theorem sc_Share___init__ : FnScope ["self", "over", "under", "by"] ["self", "over", "under"] (defScope s_Share___init__) := ⟨rfl, rfl, rfl, by decide +kernel, rfl, by decide +kernel, by decide +kernel⟩
theorem sc_Share___add__ : FnScope ["self", "other"] ["self", "other"] (defScope s_Share___add__) := ⟨rfl, rfl, rfl, by decide +kernel, rfl, by decide +kernel, by decide +kernel⟩
theorem sc_Share___sub__ : FnScope ["self", "other"] ["self", "other"] (defScope s_Share___sub__) := ⟨rfl, rfl, rfl, by decide +kernel, rfl, by decide +kernel, by decide +kernel⟩
theorem sc_Share___mul__ : FnScope ["self", "other"] ["self", "other"] (defScope s_Share___mul__) := ⟨rfl, rfl, rfl, by decide +kernel, rfl, by decide +kernel, by decide +kernel⟩
theorem sc_Share___eq__ : FnScope ["self", "other"] ["self", "other"] (defScope s_Share___eq__) := ⟨rfl, rfl, rfl, by decide +kernel, rfl, by decide +kernel, by decide +kernel⟩
theorem sc_Share_is_below : FnScope ["self", "other"] ["self", "other"] (defScope s_Share_is_below) := ⟨rfl, rfl, rfl, by decide +kernel, rfl, by decide +kernel, by decide +kernel⟩
theorem sc_lesser_of : FnScope ["share", "other"] ["share", "other"] (defScope s_lesser_of) := ⟨rfl, rfl, rfl, by decide +kernel, rfl, by decide +kernel, by decide +kernel⟩
theorem sc_L_numbers : FnScope ["_law_cell", "_law_at", "_law_many", "_law_great", "_law_rest", "_law_numbers_here", "_law_k", "_law_mixed"] ["_law_cell", "_law_at", "_law_many"] (defScope s_L_numbers) := ⟨rfl, rfl, rfl, by decide +kernel, rfl, by decide +kernel, by decide +kernel⟩
theorem sc_L_same : FnScope ["_law_actual", "_law_expected", "_law_k"] ["_law_actual", "_law_expected"] (defScope s_L_same) := ⟨rfl, rfl, rfl, by decide +kernel, rfl, by decide +kernel, by decide +kernel⟩
theorem sc_L_common : FnScope ["_law_one", "_law_other", "_law_k", "_law_rest"] ["_law_one", "_law_other"] (defScope s_L_common) := ⟨rfl, rfl, rfl, by decide +kernel, rfl, by decide +kernel, by decide +kernel⟩
theorem sc_L_least : FnScope ["_law_over", "_law_under", "_law_common_here"] ["_law_over", "_law_under"] (defScope s_L_least) := ⟨rfl, rfl, rfl, by decide +kernel, rfl, by decide +kernel, by decide +kernel⟩
theorem sc_L_plus : FnScope ["_law_one", "_law_other"] ["_law_one", "_law_other"] (defScope s_L_plus) := ⟨rfl, rfl, rfl, by decide +kernel, rfl, by decide +kernel, by decide +kernel⟩
theorem sc_L_by : FnScope ["_law_one", "_law_other"] ["_law_one", "_law_other"] (defScope s_L_by) := ⟨rfl, rfl, rfl, by decide +kernel, rfl, by decide +kernel, by decide +kernel⟩
theorem sc_L_is_share : FnScope ["_law_told", "_law_due"] ["_law_told", "_law_due"] (defScope s_L_is_share) := ⟨rfl, rfl, rfl, by decide +kernel, rfl, by decide +kernel, by decide +kernel⟩
theorem sc_L_integer : FnScope ["_law_numbers_here", "_law_k", "_law_great", "_law_number", "_law_kind", "_law_values", "_law_value"] ["_law_numbers_here", "_law_k"] (defScope s_L_integer) := ⟨rfl, rfl, rfl, by decide +kernel, rfl, by decide +kernel, by decide +kernel⟩
theorem sc_L_fraction : FnScope ["_law_numbers_here", "_law_k", "_law_under"] ["_law_numbers_here", "_law_k"] (defScope s_L_fraction) := ⟨rfl, rfl, rfl, by decide +kernel, rfl, by decide +kernel, by decide +kernel⟩
theorem sc_L_refuses : FnScope ["_law_over", "_law_kinds", "e"] ["_law_over"] (defScope s_L_refuses) := ⟨rfl, rfl, rfl, by decide +kernel, rfl, by decide +kernel, by decide +kernel⟩
theorem sc_L_is_below : FnScope ["_law_one", "_law_other"] ["_law_one", "_law_other"] (defScope s_L_is_below) := ⟨rfl, rfl, rfl, by decide +kernel, rfl, by decide +kernel, by decide +kernel⟩
theorem sc_L_pair : FnScope ["_law_share", "_law_due", "_law_second", "_law_other", "_law_minus", "_law_lesser"] ["_law_share", "_law_due", "_law_second", "_law_other"] (defScope s_L_pair) := ⟨rfl, rfl, rfl, by decide +kernel, rfl, by decide +kernel, by decide +kernel⟩
theorem sc_law : FnScope ["_law_script", "_law_at", "_law_numbers_here", "_law_k", "_law_raws", "_law_near", "_law_dues", "_law_shares", "_law_j", "_law_other", "_law_raw"] ["_law_script"] (defScope s_law) := ⟨rfl, rfl, rfl, by decide +kernel, rfl, by decide +kernel, by decide +kernel⟩

structure Txt (K : PySem.W.Frag) (mg : Str → Option Value) : Type where
  z_ValueError : mg "ValueError" = none
  z_abs : mg "abs" = none
  z_bool : mg "bool" = none
  z_int : mg "int" = none
  z_isinstance : mg "isinstance" = none
  z_len : mg "len" = none
  z_max : mg "max" = none
  z_min : mg "min" = none
  z_range : mg "range" = none
  z_repr : mg "repr" = none
  z_str : mg "str" = none
  z_tuple : mg "tuple" = none
  c_Share : Addr
  C_Share : Cls K c_Share
  gc_Share : mg "Share" = some (.ref c_Share)
  n_Share_over : NoAttr K c_Share "over"
  n_Share_under : NoAttr K c_Share "under"
  o_Share : OwnC K c_Share
  ot_Share_NoneType : PySem.W.subIn K (.type "NoneType") (.ref c_Share) = some false
  ot_Share_list : PySem.W.subIn K (.type "list") (.ref c_Share) = some false
  ot_Share_bool : PySem.W.subIn K (.type "bool") (.ref c_Share) = some false
  c_ServeError : Addr
  gc_ServeError : mg "ServeError" = some (.ref c_ServeError)
  er_ServeError : ErrN K c_ServeError
  c_InvalidNumber : Addr
  gc_InvalidNumber : mg "InvalidNumber" = some (.ref c_InvalidNumber)
  er_InvalidNumber : ErrN K c_InvalidNumber
  c_InvalidLetter : Addr
  gc_InvalidLetter : mg "InvalidLetter" = some (.ref c_InvalidLetter)
  er_InvalidLetter : ErrN K c_InvalidLetter
  c_NoHouse : Addr
  gc_NoHouse : mg "NoHouse" = some (.ref c_NoHouse)
  er_NoHouse : ErrN K c_NoHouse
  c_NoRequest : Addr
  gc_NoRequest : mg "NoRequest" = some (.ref c_NoRequest)
  er_NoRequest : ErrN K c_NoRequest
  c_NoRoom : Addr
  gc_NoRoom : mg "NoRoom" = some (.ref c_NoRoom)
  er_NoRoom : ErrN K c_NoRoom
  c_NotAlone : Addr
  gc_NotAlone : mg "NotAlone" = some (.ref c_NotAlone)
  er_NotAlone : ErrN K c_NotAlone
  c_NotHeld : Addr
  gc_NotHeld : mg "NotHeld" = some (.ref c_NotHeld)
  er_NotHeld : ErrN K c_NotHeld
  c_TooLarge : Addr
  gc_TooLarge : mg "TooLarge" = some (.ref c_TooLarge)
  er_TooLarge : ErrN K c_TooLarge
  a_InvalidNumber___init__ : Addr
  d_InvalidNumber___init__ : FuncData
  F_InvalidNumber___init__ : Fun K "__init__" "InvalidNumber.__init__" s_InvalidNumber___init__ a_InvalidNumber___init__ d_InvalidNumber___init__
  b_InvalidNumber___init__ : Binds K d_InvalidNumber___init__ ["self", "number"] []
  a_greatest_divisor : Addr
  d_greatest_divisor : FuncData
  F_greatest_divisor : Fun K "greatest_divisor" "greatest_divisor" s_greatest_divisor a_greatest_divisor d_greatest_divisor
  g_greatest_divisor : mg "greatest_divisor" = some (.ref a_greatest_divisor)
  b_greatest_divisor : Binds K d_greatest_divisor ["one", "two"] []
  a_Share___init__ : Addr
  d_Share___init__ : FuncData
  F_Share___init__ : Fun K "__init__" "Share.__init__" s_Share___init__ a_Share___init__ d_Share___init__
  b_Share___init__ : Binds K d_Share___init__ ["self", "over", "under"] []
  M_Share : Mk K c_Share a_Share___init__
  a_Share___add__ : Addr
  d_Share___add__ : FuncData
  F_Share___add__ : Fun K "__add__" "Share.__add__" s_Share___add__ a_Share___add__ d_Share___add__
  b_Share___add__ : Binds K d_Share___add__ ["self", "other"] []
  m_Share___add__ : Meth K c_Share "__add__" a_Share___add__
  bo_Share___add__ : BinOf K c_Share a_Share___add__ "__add__"
  a_Share___sub__ : Addr
  d_Share___sub__ : FuncData
  F_Share___sub__ : Fun K "__sub__" "Share.__sub__" s_Share___sub__ a_Share___sub__ d_Share___sub__
  b_Share___sub__ : Binds K d_Share___sub__ ["self", "other"] []
  m_Share___sub__ : Meth K c_Share "__sub__" a_Share___sub__
  bo_Share___sub__ : BinOf K c_Share a_Share___sub__ "__sub__"
  a_Share___mul__ : Addr
  d_Share___mul__ : FuncData
  F_Share___mul__ : Fun K "__mul__" "Share.__mul__" s_Share___mul__ a_Share___mul__ d_Share___mul__
  b_Share___mul__ : Binds K d_Share___mul__ ["self", "other"] []
  m_Share___mul__ : Meth K c_Share "__mul__" a_Share___mul__
  bo_Share___mul__ : BinOf K c_Share a_Share___mul__ "__mul__"
  a_Share___eq__ : Addr
  d_Share___eq__ : FuncData
  F_Share___eq__ : Fun K "__eq__" "Share.__eq__" s_Share___eq__ a_Share___eq__ d_Share___eq__
  b_Share___eq__ : Binds K d_Share___eq__ ["self", "other"] []
  m_Share___eq__ : Meth K c_Share "__eq__" a_Share___eq__
  e_Share : EqOf K c_Share a_Share___eq__
  a_Share_is_below : Addr
  d_Share_is_below : FuncData
  F_Share_is_below : Fun K "is_below" "Share.is_below" s_Share_is_below a_Share_is_below d_Share_is_below
  b_Share_is_below : Binds K d_Share_is_below ["self", "other"] []
  m_Share_is_below : Meth K c_Share "is_below" a_Share_is_below
  a_lesser_of : Addr
  d_lesser_of : FuncData
  F_lesser_of : Fun K "lesser_of" "lesser_of" s_lesser_of a_lesser_of d_lesser_of
  g_lesser_of : mg "lesser_of" = some (.ref a_lesser_of)
  b_lesser_of : Binds K d_lesser_of ["share", "other"] []
  a_L_numbers : Addr
  d_L_numbers : FuncData
  F_L_numbers : Fun K "_law_numbers" "_law_numbers" s_L_numbers a_L_numbers d_L_numbers
  g_L_numbers : mg "_law_numbers" = some (.ref a_L_numbers)
  b_L_numbers : Binds K d_L_numbers ["_law_cell", "_law_at", "_law_many"] []
  a_L_same : Addr
  d_L_same : FuncData
  F_L_same : Fun K "_law_same" "_law_same" s_L_same a_L_same d_L_same
  g_L_same : mg "_law_same" = some (.ref a_L_same)
  b_L_same : Binds K d_L_same ["_law_actual", "_law_expected"] []
  a_L_common : Addr
  d_L_common : FuncData
  F_L_common : Fun K "_law_common" "_law_common" s_L_common a_L_common d_L_common
  g_L_common : mg "_law_common" = some (.ref a_L_common)
  b_L_common : Binds K d_L_common ["_law_one", "_law_other"] []
  a_L_least : Addr
  d_L_least : FuncData
  F_L_least : Fun K "_law_least" "_law_least" s_L_least a_L_least d_L_least
  g_L_least : mg "_law_least" = some (.ref a_L_least)
  b_L_least : Binds K d_L_least ["_law_over", "_law_under"] []
  a_L_plus : Addr
  d_L_plus : FuncData
  F_L_plus : Fun K "_law_plus" "_law_plus" s_L_plus a_L_plus d_L_plus
  g_L_plus : mg "_law_plus" = some (.ref a_L_plus)
  b_L_plus : Binds K d_L_plus ["_law_one", "_law_other"] []
  a_L_by : Addr
  d_L_by : FuncData
  F_L_by : Fun K "_law_by" "_law_by" s_L_by a_L_by d_L_by
  g_L_by : mg "_law_by" = some (.ref a_L_by)
  b_L_by : Binds K d_L_by ["_law_one", "_law_other"] []
  a_L_is_share : Addr
  d_L_is_share : FuncData
  F_L_is_share : Fun K "_law_is_share" "_law_is_share" s_L_is_share a_L_is_share d_L_is_share
  g_L_is_share : mg "_law_is_share" = some (.ref a_L_is_share)
  b_L_is_share : Binds K d_L_is_share ["_law_told", "_law_due"] []
  a_L_integer : Addr
  d_L_integer : FuncData
  F_L_integer : Fun K "_law_integer" "_law_integer" s_L_integer a_L_integer d_L_integer
  g_L_integer : mg "_law_integer" = some (.ref a_L_integer)
  b_L_integer : Binds K d_L_integer ["_law_numbers_here", "_law_k"] []
  a_L_fraction : Addr
  d_L_fraction : FuncData
  F_L_fraction : Fun K "_law_fraction" "_law_fraction" s_L_fraction a_L_fraction d_L_fraction
  g_L_fraction : mg "_law_fraction" = some (.ref a_L_fraction)
  b_L_fraction : Binds K d_L_fraction ["_law_numbers_here", "_law_k"] []
  a_L_refuses : Addr
  d_L_refuses : FuncData
  F_L_refuses : Fun K "_law_refuses" "_law_refuses" s_L_refuses a_L_refuses d_L_refuses
  g_L_refuses : mg "_law_refuses" = some (.ref a_L_refuses)
  b_L_refuses : Binds K d_L_refuses ["_law_over"] []
  a_L_is_below : Addr
  d_L_is_below : FuncData
  F_L_is_below : Fun K "_law_is_below" "_law_is_below" s_L_is_below a_L_is_below d_L_is_below
  g_L_is_below : mg "_law_is_below" = some (.ref a_L_is_below)
  b_L_is_below : Binds K d_L_is_below ["_law_one", "_law_other"] []
  a_L_pair : Addr
  d_L_pair : FuncData
  F_L_pair : Fun K "_law_pair" "_law_pair" s_L_pair a_L_pair d_L_pair
  g_L_pair : mg "_law_pair" = some (.ref a_L_pair)
  b_L_pair : Binds K d_L_pair ["_law_share", "_law_due", "_law_second", "_law_other"] []
  a_law : Addr
  d_law : FuncData
  F_law : Fun K "law" "law" s_law a_law d_law
  g_law : mg "law" = some (.ref a_law)
  b_law : Binds K d_law ["_law_script"] []
  ox_InvalidNumber : OexC K c_InvalidNumber
  ic_InvalidNumber : PySem.W.findIn K (.ref c_InvalidNumber) "__init__" = some (some (.ref a_InvalidNumber___init__))
  ti_InvalidNumber : PySem.W.typeIn K (.ref a_InvalidNumber___init__) = some (.type "function")
  nf_InvalidNumber : PySem.W.findIn K (.ref c_InvalidNumber) "number" = some none
  xf_InvalidNumber : XfC K c_InvalidNumber
  ec_InvalidNumber : ExcC K c_InvalidNumber
  sv_InvalidNumber : PySem.W.subIn K (.ref c_InvalidNumber) (.type "ValueError") = some true
  sub_InvalidNumber_ServeError : PySem.W.subIn K (.ref c_InvalidNumber) (.ref c_ServeError) = some true
  sub_InvalidNumber_InvalidNumber : PySem.W.subIn K (.ref c_InvalidNumber) (.ref c_InvalidNumber) = some true
  sub_InvalidNumber_InvalidLetter : PySem.W.subIn K (.ref c_InvalidNumber) (.ref c_InvalidLetter) = some false
  sub_InvalidNumber_NoHouse : PySem.W.subIn K (.ref c_InvalidNumber) (.ref c_NoHouse) = some false
  sub_InvalidNumber_NoRequest : PySem.W.subIn K (.ref c_InvalidNumber) (.ref c_NoRequest) = some false
  sub_InvalidNumber_NoRoom : PySem.W.subIn K (.ref c_InvalidNumber) (.ref c_NoRoom) = some false
  sub_InvalidNumber_NotAlone : PySem.W.subIn K (.ref c_InvalidNumber) (.ref c_NotAlone) = some false
  sub_InvalidNumber_NotHeld : PySem.W.subIn K (.ref c_InvalidNumber) (.ref c_NotHeld) = some false
  sub_InvalidNumber_TooLarge : PySem.W.subIn K (.ref c_InvalidNumber) (.ref c_TooLarge) = some false

section
variable {P : Program} {w : World} {K : PySem.W.Frag} {mg : Str → Option Value} {base : Heap}
theorem ok_InvalidNumber___init__ (T : Txt K mg) : FnOk P w K mg base CX0 1 T.a_InvalidNumber___init__ T.d_InvalidNumber___init__ ["self", "number"] (spErr K "number") := by
  refine T.F_InvalidNumber___init__.ok sc_InvalidNumber___init__ (fun vs H Q E h => ?_) (fun cdv A outer s H vs Q E hr h => ?_)
  · obtain ⟨_, _, _, rfl, _⟩ := h
    rfl
  · obtain ⟨a, C, v, rfl, h0, T1, n1, k⟩ := h
    refine ⟨_, (pss_one (ps_ost (pv 0) (pv 1) rfl)), ?_⟩
    refine go_start (σ' := [some (.ref a), some v]) rfl ?_
    exact ⟨v, rfl, .ref a, rfl, a, C, rfl, T1, n1, .inl ⟨h0, fun dx hdx hne => k dx hdx hne⟩⟩

/-! ### _law_numbers: so many numbers from 0 to 999 -/
def sp_L_numbers (K : PySem.W.Frag) : Sp := fun vs H Q _ => ∃ (c t n : Int), vs = [.int c, .int t, .int n] ∧ 0 ≤ n ∧ n ≤ 1000 ∧
  ∀ (ns : List Int) (p : Addr) (H' : Hp), (ns.length : Int) = n → (∀ x ∈ ns, (0 : Int) ≤ x ∧ x < 1000) → Same H H' → H p = none → H' p = some (.lst (ns.map V.int)) → Q (.ref p) H'
theorem ok_L_numbers (T : Txt K mg) : FnOk P w K mg base CX0 1 T.a_L_numbers T.d_L_numbers ["_law_cell", "_law_at", "_law_many"] (sp_L_numbers K) := by
  refine T.F_L_numbers.ok sc_L_numbers (fun vs H Q E h => ?_) (fun cdv A outer s H vs Q E hr h => ?_)
  · obtain ⟨_, _, _, rfl, _⟩ := h
    rfl
  · obtain ⟨c, t, n, rfl, hn0, hn1, k⟩ := h
    refine ⟨_, (pss_cons (ps_set (i := 3) sc_L_numbers.nd rfl (Or.inl rfl) (pe_cmpR op_ge (pe_callB cr_abs (by rfl) T.z_abs (by decide +kernel) (pa_cons (pe_callTy cr_int1 (by rfl) T.z_int (by decide +kernel) (pa_cons (pv 0) pa_nil)) pa_nil)) (pe_op op_pow pe_int pe_int) (nomark _)))
      (pss_cons (ps_set (i := 4) sc_L_numbers.nd rfl (Or.inl rfl) (pe_op (k_addG (K := K) rfl) (pe_op op_mul pe_int (pe_callB cr_abs (by rfl) T.z_abs (by decide +kernel) (pa_cons (pe_callTy cr_int1 (by rfl) T.z_int (by decide +kernel) (pa_cons (pv 0) pa_nil)) pa_nil))) (pe_callTy cr_int1 (by rfl) T.z_int (by decide +kernel) (pa_cons (pe_cmpR op_lt (pv 0) pe_int (nomark _)) pa_nil))))
      (pss_cons (ps_set (i := 5) sc_L_numbers.nd rfl (Or.inl rfl) (pe_lst pa_nil))
      (pss_cons (ps_for PassesOwn.never rfl (pi_range1 rfl T.z_range (pa_cons (pv 2) pa_nil)) (pg_name (i := 6) sc_L_numbers.nd rfl (Or.inl rfl))
      (pss_one (ps_if (k_tru (K := K) rfl (pv 3) (by intro _; rfl)) (pss_cons (ps_expr (k_bm (K := K) rfl PySem.F.plainAttrs_list PySem.F.slot_list_append PySem.F.type_list_append mt_append (pv 5) (pa_cons (pe_op op_mod (pe_callTy cr_int1 (by rfl) T.z_int (by decide +kernel) (pa_cons (pv 4) pa_nil)) pe_int) pa_nil)))
      (pss_one (ps_set (i := 4) sc_L_numbers.nd rfl (Or.inl rfl) (pe_op op_fdiv (pv 4) pe_int)))) (pss_cons (ps_set (i := 7) sc_L_numbers.nd rfl (Or.inl rfl) (pe_op op_mod (pe_callTy cr_int1 (by rfl) T.z_int (by decide +kernel) (pa_cons (pe_op (k_addG (K := K) rfl) (pe_op (k_addG (K := K) rfl) (pe_op (k_addG (K := K) rfl) (pe_op op_mul (pv 4) pe_int) (pe_op op_mul (pv 1) pe_int)) (pe_op op_mul (pv 6) pe_int)) pe_int) pa_nil)) pe_int))
      (pss_cons (ps_set (i := 7) sc_L_numbers.nd rfl (Or.inl rfl) (pe_op op_mod (pe_callTy cr_int1 (by rfl) T.z_int (by decide +kernel) (pa_cons (pe_op (k_addG (K := K) rfl) (pe_op (k_addG (K := K) rfl) (pe_op op_mul (pv 7) (pv 7)) (pe_op op_mul (pv 6) pe_int)) pe_int) pa_nil)) pe_int))
      (pss_cons (ps_set (i := 7) sc_L_numbers.nd rfl (Or.inl rfl) (pe_op op_mod (pe_callTy cr_int1 (by rfl) T.z_int (by decide +kernel) (pa_cons (pe_op (k_addG (K := K) rfl) (pe_op (k_addG (K := K) rfl) (pe_op op_mul (pv 7) (pv 7)) (pe_op op_mul (pv 1) pe_int)) pe_int) pa_nil)) pe_int))
      (pss_one (ps_expr (k_bm (K := K) rfl PySem.F.plainAttrs_list PySem.F.slot_list_append PySem.F.type_list_append mt_append (pv 5) (pa_cons (pe_op op_mod (pe_callTy cr_int1 (by rfl) T.z_int (by decide +kernel) (pa_cons (pe_op op_fdiv (pv 7) pe_int) pa_nil)) pe_int) pa_nil))))))))))
      (pss_one (ps_ret (pv 5))))))), ?_⟩
    refine go_start (σ' := [some (.int c), some (.int t), some (.int n), none, none, none, none, none]) rfl ?_
    try dsimp only [cxOf, Cx.nox, Cx.wish]
    walk_at "go"
    refine ⟨Nat.zero_le _, fun l hl => ?_⟩
    walk_at "go"
    refine l_range (fun i σ H' => ∃ (g : Bool) (r : Int) (ns : List Int) (y6 y7 : Option V), σ = [some (.int c), some (.int t), some (.int n), some (.bl g), some (.int r), some (.ref l), y6, y7] ∧ ns.length = i ∧ (∀ x ∈ ns, (0 : Int) ≤ x ∧ x < 1000) ∧ Same H H' ∧ H' l = some (.lst (ns.map V.int)))
      (by omega) (by omega) ⟨_, _, [], none, none, rfl, rfl, List.forall_mem_nil _, Same.new hl, upd_same⟩ ?_ ?_
    · rintro i σ H' hi ⟨g, r, ns, y6, y7, rfl, hlen, hb, sm, hL⟩
      have hz : (ns.map V.int).length < sizeLine := by
        rw [List.length_map]
        exact small1000 (by omega)
      walk_at "go"
      refine w_iteB (fun hg => ?_) (fun hg => ?_)
      · walk_at "go"
        refine w_append hL hz ?_
        walk_at "go"
        refine ⟨g, _, ns ++ [_], _, _, rfl, by rw [List.length_append, hlen]; rfl, fun x hx => ?_, Same.mut sm hl, by rw [upd_same, List.map_append]; rfl⟩
        rcases List.mem_append.mp hx with h | h
        · exact hb x h
        · rw [List.mem_singleton.mp h]; omega
      · walk_at "go"
        refine w_append hL hz ?_
        walk_at "go"
        refine ⟨g, _, ns ++ [_], _, _, rfl, by rw [List.length_append, hlen]; rfl, fun x hx => ?_, Same.mut sm hl, by rw [upd_same, List.map_append]; rfl⟩
        rcases List.mem_append.mp hx with h | h
        · exact hb x h
        · rw [List.mem_singleton.mp h]; omega
    · rintro σ H' ⟨g, r, ns, y6, y7, rfl, hlen, hb, sm, hL⟩
      walk_at "go"
      exact k ns l H' (by omega) hb sm hl hL

/-! ### _law_same: True of the same data -/
def sp_L_same (K : PySem.W.Frag) (n : Nat) : Sp := fun vs H Q _ => ∃ x y : V, vs = [x, y] ∧ Sm K H n x y ∧ Q (.bl true) H
theorem same_step (T : Txt K mg) {n k : Nat} (G : FnOk P w K mg base CX0 k T.a_L_same T.d_L_same ["_law_actual", "_law_expected"] (fun vs H Q E => ∃ m, n = m + 1 ∧ sp_L_same K m vs H Q E)) :
    FnOk P w K mg base CX0 (k + 1) T.a_L_same T.d_L_same ["_law_actual", "_law_expected"] (sp_L_same K n) := by
  refine T.F_L_same.ok sc_L_same (fun vs H Q E h => ?_) (fun cdv A outer s H vs Q E hr h => ?_)
  · obtain ⟨_, _, rfl, _⟩ := h
    rfl
  · obtain ⟨x, y, rfl, hS, q⟩ := h
    refine ⟨_, (pss_cons (ps_if (pt_cmpR op_isNN (pv 1) pe_non (nomark _)) (pss_one (ps_ret (pe_cmpR op_isNN (pv 0) pe_non (nomark _)))) pss_nil)
      (pss_cons (ps_if (k_tru (K := K) rfl (pe_callB (k_isi (K := K) rfl) (by rfl) T.z_isinstance (by decide +kernel) (pa_cons (pv 1) (pa_cons (pe_bltn (v := .ty "str") (by rfl) T.z_str (by decide +kernel) rfl) pa_nil))) (by intro _; rfl)) (pss_one (ps_ret (pe_and (pe_callB (k_isi (K := K) rfl) (by rfl) T.z_isinstance (by decide +kernel) (pa_cons (pv 0) (pa_cons (pe_bltn (v := .ty "str") (by rfl) T.z_str (by decide +kernel) rfl) pa_nil))) (pe_one (pe_cmpR (k_eqG (K := K) rfl hr.units) (pv 0) (pv 1) (nomark _)))))) pss_nil)
      (pss_cons (ps_if (k_tru (K := K) rfl (pe_callB (k_isi (K := K) rfl) (by rfl) T.z_isinstance (by decide +kernel) (pa_cons (pv 1) (pa_cons (pe_bltn (v := .ty "bool") (by rfl) T.z_bool (by decide +kernel) rfl) pa_nil))) (by intro _; rfl)) (pss_one (ps_ret (pe_and (pe_callB (k_isi (K := K) rfl) (by rfl) T.z_isinstance (by decide +kernel) (pa_cons (pv 0) (pa_cons (pe_bltn (v := .ty "bool") (by rfl) T.z_bool (by decide +kernel) rfl) pa_nil))) (pe_one (pe_cmpR (k_eqG (K := K) rfl hr.units) (pv 0) (pv 1) (nomark _)))))) pss_nil)
      (pss_cons (ps_if (k_tru (K := K) rfl (pe_callB (k_isi (K := K) rfl) (by rfl) T.z_isinstance (by decide +kernel) (pa_cons (pv 1) (pa_cons (pe_bltn (v := .ty "int") (by rfl) T.z_int (by decide +kernel) rfl) pa_nil))) (by intro _; rfl)) (pss_one (ps_ret (pe_and (pe_callB (k_isi (K := K) rfl) (by rfl) T.z_isinstance (by decide +kernel) (pa_cons (pv 0) (pa_cons (pe_bltn (v := .ty "int") (by rfl) T.z_int (by decide +kernel) rfl) pa_nil))) (pe_and (pe_not (pe_callB (k_isi (K := K) rfl) (by rfl) T.z_isinstance (by decide +kernel) (pa_cons (pv 0) (pa_cons (pe_bltn (v := .ty "bool") (by rfl) T.z_bool (by decide +kernel) rfl) pa_nil)))) (pe_one (pe_cmpR (k_eqG (K := K) rfl hr.units) (pv 0) (pv 1) (nomark _))))))) pss_nil)
      (pss_cons (ps_if (PW.pt (pw_or (pt_not (k_tru (K := K) rfl (pe_callB (k_isi (K := K) rfl) (by rfl) T.z_isinstance (by decide +kernel) (pa_cons (pv 0) (pa_cons (pe_bltn (v := .ty "tuple") (by rfl) T.z_tuple (by decide +kernel) rfl) pa_nil))) (by intro _; rfl))) (pw_or1 (pt_cmpR (k_neG (K := K) rfl hr.units) (pe_callB (k_lenS (K := K) rfl) (by rfl) T.z_len (by decide +kernel) (pa_cons (pv 0) pa_nil)) (pe_callB (k_lenS (K := K) rfl) (by rfl) T.z_len (by decide +kernel) (pa_cons (pv 1) pa_nil)) (nomark _))))) (pss_one (ps_ret pe_bl)) pss_nil)
      (pss_cons (ps_for PassesOwn.never rfl (pi_range1 rfl T.z_range (pa_cons (pe_callB (k_lenS (K := K) rfl) (by rfl) T.z_len (by decide +kernel) (pa_cons (pv 1) pa_nil)) pa_nil)) (pg_name (i := 2) sc_L_same.nd rfl (Or.inl rfl))
      (pss_one (ps_if (pt_not (k_tru (K := K) rfl (pe_call G hr (by rfl) T.g_L_same T.F_L_same.kp T.b_L_same .nil pass0 (pa_cons (pe_ix (k_ix (K := K) rfl) (pv 0) (pv 2) (fun _ _ => rfl)) (pa_cons (pe_ix (k_ix (K := K) rfl) (pv 1) (pv 2) (fun _ _ => rfl)) pa_nil))) (by intro _; rfl))) (pss_one (ps_ret pe_bl)) pss_nil)))
      (pss_one (ps_ret pe_bl)))))))), ?_⟩
    refine go_start (σ' := [some x, some y, none]) rfl ?_
    try dsimp only [cxOf, Cx.nox, Cx.wish]
    have hflat : (x = y ∧ (x = .non ∨ (∃ b, x = .bl b) ∨ (∃ i, x = .int i) ∨ ∃ s, x = .str s)) ∨
        ∃ (m : Nat) (a a' : Addr) (k : Bool) (xs ys : List V), n = m + 1 ∧ x = .ref a ∧ y = .ref a' ∧ SqT K H a xs ∧ Sq k K H a' ys ∧ xs.length = ys.length ∧ ys.length ≤ 100000 ∧ ∀ (i : Nat) x' y', xs[i]? = some x' → ys[i]? = some y' → Sm K H m x' y' := by
      cases n with
      | zero => exact .inl hS
      | succ m =>
        rcases hS with h | ⟨a, a', k, xs, ys, h1, h2, h3, h4, h5, hz, h6⟩
        · exact .inl h
        · exact .inr ⟨m, a, a', k, xs, ys, rfl, h1, h2, h3, h4, h5, hz, h6⟩
    rcases hflat with ⟨rfl, rfl | ⟨b, rfl⟩ | ⟨i, rfl⟩ | ⟨z, rfl⟩⟩ | ⟨m, a, a', kd, xs, ys, rfl, rfl, rfl, hx, hy, hl, hz, hxy⟩
    · walk_at "go"
      exact q
    · walk_at "go"
      refine w_isi (tn := "bool") (b := false) (.base (.bl _)) (by decide +kernel) ?_
      walk_at "go"
      refine w_isi (tn := "bool") (b := true) (.base (.bl _)) (by decide +kernel) ?_
      walk_at "go"
      refine w_isi (tn := "bool") (b := true) (.base (.bl _)) (by decide +kernel) ?_
      walk_at "go"
      refine w_eqS rfl ?_
      rw [decide_eq_true rfl]
      exact q
    · walk_at "go"
      refine w_isi (tn := "int") (b := false) (.base (.int _)) (by decide +kernel) ?_
      walk_at "go"
      refine w_isi (tn := "int") (b := false) (.base (.int _)) (by decide +kernel) ?_
      walk_at "go"
      refine w_isi (tn := "int") (b := true) (.base (.int _)) (by decide +kernel) ?_
      walk_at "go"
      refine w_isi (tn := "int") (b := true) (.base (.int _)) (by decide +kernel) ?_
      walk_at "go"
      refine w_isi (tn := "int") (b := false) (.base (.int _)) (by decide +kernel) ?_
      walk_at "go"
      rw [decide_eq_true rfl]
      exact q
    · walk_at "go"
      refine w_isi (tn := "str") (b := true) (.base (.str _)) (by decide +kernel) ?_
      walk_at "go"
      refine w_isi (tn := "str") (b := true) (.base (.str _)) (by decide +kernel) ?_
      walk_at "go"
      refine w_eqS rfl ?_
      rw [decide_eq_true rfl]
      exact q
    · walk_at "go"
      have isi : ∀ {cn : String} {Q' : VK}, kitB (if kd then "list" else "tuple") cn = some false → Q' (.bl false) H → rIsi K [.ref a', .ty cn] H Q' := fun hk q' => by
        cases kd with
        | true => exact w_isi (tyx_lst hy) hk q'
        | false => exact w_isi (tyx_tup hy) hk q'
      refine isi (by cases kd <;> decide +kernel) ?_
      walk_at "go"
      refine isi (by cases kd <;> decide +kernel) ?_
      walk_at "go"
      refine isi (by cases kd <;> decide +kernel) ?_
      walk_at "go"
      refine w_isi (tn := "tuple") (b := true) (tyx_tup hx) (by decide +kernel) ?_
      walk_at "go"
      have hx' : Sq false K H a xs := hx
      walk_at "go"
      refine w_iteN (fun hc => absurd (show ((xs.length : Nat) : Int) = ys.length by rw [hl]) hc) (fun _ => ?_)
      walk_at "go"
      refine l_range (fun i σ H' => ∃ y2, σ = [some (.ref a), some (.ref a'), y2] ∧ H' = H) (by omega) (by omega) ⟨none, rfl, rfl⟩ ?_ ?_
      · rintro i σ H' hi ⟨y2, rfl, rfl⟩
        have hi2 : i < ys.length := by omega
        have ex : xs[i]? = some (xs[i]'(by omega)) := List.getElem?_eq_getElem (by omega)
        have ey : ys[i]? = some (ys[i]'hi2) := List.getElem?_eq_getElem hi2
        walk_at "go"
        refine w_ix hx' (atI_nat ex) ?_
        walk_at "go"
        refine w_ix hy (atI_nat ey) ?_
        walk_at "go"
        refine ⟨m, rfl, _, _, rfl, hxy i _ _ ex ey, ?_⟩
        walk_at "go"
        exact ⟨_, rfl, rfl⟩
      · rintro σ H' ⟨y2, rfl, rfl⟩
        walk_at "go"
        exact q
/-- of data no deeper than n, at a level of its own -/
theorem ok_L_same_at (T : Txt K mg) : ∀ n : Nat, FnOk P w K mg base CX0 (n + 1) T.a_L_same T.d_L_same ["_law_actual", "_law_expected"] (sp_L_same K n)
  | 0 => same_step T (k := 0) ⟨fun vs H Q E h => by obtain ⟨m, e, _⟩ := h; exact absurd e (by omega), fun A outer s H args us vs Q E hr he hb hv h => by obtain ⟨m, e, _⟩ := h; exact absurd e (by omega)⟩
  | n + 1 => same_step T ((ok_L_same_at T n).imp fun vs H Q E h => by
      obtain ⟨m, e, h⟩ := h
      have e2 : m = n := by omega
      subst e2
      exact h)

theorem make_same {H : Hp} {x dx : Addr} {o o' : HO} (hx : H x = none) (hdx : H dx = none) : Same H (hide x (upd (upd H dx o) x o')) := fun b u e => by
  rw [hide_upd, hide_ne (ne_of_none e hx), upd_ne (ne_of_none e hdx)]
  exact e
theorem cutV_ints {ns : List Int} {a b : Int} (h0 : 0 ≤ a) (h : a ≤ b) (hb : b ≤ ns.length) : cutV (ns.map V.int) (some a) (some b) = ((ns.drop a.toNat).take (b.toNat - a.toNat)).map V.int := by
  rw [cutV_int h0 h (by rw [List.length_map]; exact hb), List.map_take, List.map_drop]

/-! ### greatest_divisor, Share; _law_common, _law_least, _law_plus, _law_by -/
def qF (q : Rat) : List (Str × V) := [("over", .int q.num), ("under", .int (q.den : Int))]
def RShare (C : Addr) : Rep Rat := fun H v q => ∃ p dx, v = .ref p ∧ H p = some (.ins C dx (qF q))
def RFrac (K : PySem.W.Frag) : Rep Rat := fun H v q => ∃ a, v = .ref a ∧ Sq false K H a [.int q.num, .int (q.den : Int)]
theorem RShare.mono {C : Addr} : RMono (RShare C) := fun _ _ _ _ s ⟨p, dx, e, h⟩ => ⟨p, dx, e, s _ _ h⟩
theorem RShare.lst {C : Addr} : RLst (RShare C) := fun H D v q ys hD ⟨p, dx, e, h⟩ => ⟨p, dx, e, by
  rw [hide_ne (fun e => by rw [e, hD] at h; cases h)]
  exact h⟩
theorem RFrac.mono {K : PySem.W.Frag} : RMono (RFrac K) := fun _ _ _ _ s ⟨a, e, h⟩ => ⟨a, e, s.sq h⟩
theorem RFrac.tup {K : PySem.W.Frag} : RTup (RFrac K) := fun _ _ _ _ hD ⟨a, e, h⟩ => ⟨a, e, sq_hide hD h⟩

def sp_greatest_divisor : Sp := fun vs H Q _ => ∃ a b : Nat, vs = [.int (a : Int), .int (b : Int)] ∧ Q (.int ((Nat.gcd a b : Nat) : Int)) H
theorem ok_greatest_divisor (T : Txt K mg) : FnOk P w K mg base CX0 1 T.a_greatest_divisor T.d_greatest_divisor ["one", "two"] sp_greatest_divisor := by
  refine T.F_greatest_divisor.ok sc_greatest_divisor (fun vs H Q E h => ?_) (fun cdv A outer s H vs Q E hr h => ?_)
  · obtain ⟨_, _, rfl, _⟩ := h
    rfl
  · obtain ⟨a, b, rfl, k⟩ := h
    refine ⟨_, (pss_cons (ps_while PassesOwn.never (pt_cmpR op_gt (pv 1) pe_int (nomark _))
      (pss_one (ps_par (i := 0) (j := 1) rfl sc_greatest_divisor.nd rfl rfl (by decide) rfl rfl (pa_cons (pv 1) (pa_cons (pe_op op_mod (pv 0) (pv 1)) pa_nil)) rfl)))
      (pss_one (ps_ret (pv 0)))), ?_⟩
    refine go_start (σ' := [some (.int (a : Int)), some (.int (b : Int))]) rfl ?_
    try dsimp only [cxOf, Cx.nox, Cx.wish]
    walk_at "go"
    refine w_while (fun m σ H' => ∃ c d : Nat, σ = [some (.int (c : Int)), some (.int (d : Int))] ∧ H' = H ∧ Nat.gcd c d = Nat.gcd a b ∧ m = d) b ⟨a, b, rfl, rfl, rfl, rfl⟩ ?_
    rintro m σ H' ⟨c, d, rfl, rfl, hg, rfl⟩
    walk_at "go"
    refine w_iteD (fun h => ?_) (fun h => ?_)
    · refine w_whN ?_
      walk_at "go"
      refine w_par ?_
      walk_at "go"
      refine w_par2 ?_
      have hd : 0 < m := by omega
      refine ⟨c % m, Nat.mod_lt c hd, m, c % m, ?_, rfl, (gcd_step c m).trans hg, rfl⟩
      rw [Int.natCast_emod]
      rfl
    · walk_at "go"
      have e : m = 0 := by omega
      subst e
      rw [Nat.gcd_zero_right] at hg
      rw [hg]
      exact k

def sp_Share___init__ (C : Addr) : Sp := fun vs H Q _ => ∃ (p dx : Addr) (a b : Int), vs = [.ref p, .int a, .int b] ∧ H p = some (.ins C dx []) ∧ b ≠ 0 ∧ a.natAbs < 2 ^ 4000 ∧ b.natAbs < 2 ^ 4000 ∧
  ∀ H', Same (hide p H) (hide p H') → H' p = some (.ins C dx (qF (Rat.divInt a b))) → Q .non H'
theorem gcd_pos {a b : Int} (hb : b ≠ 0) : (0 : Int) < ((Nat.gcd a.natAbs b.natAbs : Nat) : Int) := by
  have := Nat.gcd_pos_of_pos_right a.natAbs (n := b.natAbs) (by omega)
  omega
theorem abs_eq (i : Int) : (if i < 0 then -i else i) = ((i.natAbs : Nat) : Int) := by
  split <;> omega
theorem ok_Share___init__ (T : Txt K mg) : FnOk P w K mg base CX0 3 T.a_Share___init__ T.d_Share___init__ ["self", "over", "under"] (sp_Share___init__ T.c_Share) := by
  refine T.F_Share___init__.ok sc_Share___init__ (fun vs H Q E h => ?_) (fun cdv A outer s H vs Q E hr h => ?_)
  · obtain ⟨_, _, _, _, rfl, _⟩ := h
    rfl
  · obtain ⟨p, dx, a, b, rfl, h0, hb, ha1, hb1, k⟩ := h
    have cS := T.C_Share
    have n0 := T.n_Share_over
    have n1 := T.n_Share_under
    refine ⟨_, (pss_cons (ps_if (pt_cmpR (k_eqG (K := K) rfl hr.units) (pv 2) pe_int (nomark _)) (pss_one ps_never) pss_nil)
      (pss_cons (ps_set (i := 3) sc_Share___init__.nd rfl (Or.inl rfl) (pe_call (ok_greatest_divisor T) (hr.mono (by decide)) (by rfl) T.g_greatest_divisor T.F_greatest_divisor.kp T.b_greatest_divisor .nil pass0 (pa_cons (pe_callB cr_abs (by rfl) T.z_abs (by decide +kernel) (pa_cons (pv 1) pa_nil)) (pa_cons (pe_callB cr_abs (by rfl) T.z_abs (by decide +kernel) (pa_cons (pv 2) pa_nil)) pa_nil))))
      (pss_cons (ps_if (pt_cmpR op_lt (pv 2) pe_int (nomark _)) (pss_one (ps_set (i := 3) sc_Share___init__.nd rfl (Or.inl rfl) (pe_un un_neg (pv 3)))) pss_nil)
      (pss_cons (k_sfld (K := K) rfl (pv 0) (pe_op op_fdivV (pv 1) (pv 3)) rfl)
      (pss_one (k_sfld (K := K) rfl (pv 0) (pe_op op_fdivV (pv 2) (pv 3)) rfl)))))), ?_⟩
    refine go_start (σ' := [some (.ref p), some (.int a), some (.int b), none]) rfl ?_
    try dsimp only [cxOf, Cx.nox, Cx.wish]
    walk_at "go"
    rw [decide_eq_false hb]
    walk_at "go"
    rw [abs_eq, abs_eq]
    refine ⟨_, _, rfl, ?_⟩
    have hg := gcd_pos (a := a) hb
    generalize hG : ((Nat.gcd a.natAbs b.natAbs : Nat) : Int) = g at hg ⊢
    walk_at "go"
    refine w_iteD (fun h => ?_) (fun h => ?_)
    · walk_at "go"
      refine w_I ⟨by omega, ha1⟩ ?_
      walk_at "go"
      refine w_I ⟨by omega, hb1⟩ ?_
      walk_at "go"
      refine k _ (by rw [hide_upd, hide_upd]; exact Same.refl _) ?_
      rw [upd_same]
      have e : Rat.divInt a b = Rat.divInt (-a) (-b) := (Rat.neg_divInt_neg a b).symm
      have h1 := div_num (a := -a) (b := -b) (by omega)
      have h2 := div_den (a := -a) (b := -b) (by omega)
      rw [Int.natAbs_neg, Int.natAbs_neg, hG, ← fdiv_neg hg] at h1 h2
      unfold qF
      rw [e, h1, h2]
    · walk_at "go"
      refine w_I ⟨by omega, ha1⟩ ?_
      walk_at "go"
      refine w_I ⟨by omega, hb1⟩ ?_
      walk_at "go"
      refine k _ (by rw [hide_upd, hide_upd]; exact Same.refl _) ?_
      rw [upd_same]
      have h1 := div_num (a := a) (b := b) (by omega)
      have h2 := div_den (a := a) (b := b) (by omega)
      rw [hG, ← fdiv_pos hg] at h1 h2
      unfold qF
      rw [h1, h2]
/-- Share(a, b) made -/
theorem share_made {C : Addr} {H : Hp} {x dx : Addr} {a b : Int} (hx : H x = none) (hdx : H dx = none) (hb : b ≠ 0) (ha1 : a.natAbs < 2 ^ 4000) (hb1 : b.natAbs < 2 ^ 4000) {Q : VK} {E : XK} (q : ∀ H', Same H H' → RShare C H' (.ref x) (Rat.divInt a b) → Q .non H') :
    sp_Share___init__ C [.ref x, .int a, .int b] (upd (upd H dx (.own x)) x (.ins C dx [])) Q E :=
  ⟨x, dx, a, b, rfl, upd_same, hb, ha1, hb1, fun H' s h => q H' (((make_same hx hdx).trans s).trans (hide_same _ _)) ⟨x, dx, rfl, h⟩⟩

def sp_Share___mul__ (C : Addr) : Sp := fun vs H Q _ => ∃ (x y : V) (p q : Rat), vs = [x, y] ∧ RShare C H x p ∧ RShare C H y q ∧ RB 1000 p ∧ RB 1000 q ∧ ∀ v' H', Same H H' → RShare C H' v' (p * q) → Q v' H'
theorem RB.big {n : Nat} {p : Rat} (h : RB n p) (hl : n ≤ 1000) : p.num.natAbs < 2 ^ 1000 ∧ (p.den : Int).natAbs < 2 ^ 1000 := ⟨(h.mono hl).1, by rw [Int.natAbs_natCast]; exact (h.mono hl).2⟩
theorem mul_big {i j : Int} {n m : Nat} (h1 : i.natAbs < 2 ^ n) (h2 : j.natAbs < 2 ^ m) : (i * j).natAbs < 2 ^ (n + m) := by
  rw [Int.natAbs_mul, Nat.pow_add]
  exact Nat.mul_lt_mul'' h1 h2
theorem big_up {i : Int} {n m : Nat} (h : i.natAbs < 2 ^ n) (hl : n ≤ m) : i.natAbs < 2 ^ m := Nat.lt_of_lt_of_le h (Nat.pow_le_pow_right (by omega) hl)
theorem ok_Share___mul__ (T : Txt K mg) : FnOk P w K mg base CX0 5 T.a_Share___mul__ T.d_Share___mul__ ["self", "other"] (sp_Share___mul__ T.c_Share) := by
  refine T.F_Share___mul__.ok sc_Share___mul__ (fun vs H Q E h => ?_) (fun cdv A outer s H vs Q E hr h => ?_)
  · obtain ⟨_, _, _, _, rfl, _⟩ := h
    rfl
  · obtain ⟨x, y, p, q, rfl, ⟨ap, dp, rfl, hp⟩, ⟨aq, dq, rfl, hq⟩, bp, bq, k⟩ := h
    have cS := T.C_Share
    have n0 := T.n_Share_over
    have n1 := T.n_Share_under
    refine ⟨_, (pss_one (ps_ret (pe_make T.M_Share (ok_Share___init__ T) (hr.mono (by decide)) rfl T.gc_Share T.b_Share___init__ .nil pass0 (pa_cons (pe_op op_mulX (k_fld (K := K) rfl (pv 0) rfl) (k_fld (K := K) rfl (pv 1) rfl)) (pa_cons (pe_op op_mulX (k_fld (K := K) rfl (pv 0) rfl) (k_fld (K := K) rfl (pv 1) rfl)) pa_nil))))), ?_⟩
    refine go_start (σ' := [some (.ref ap), some (.ref aq)]) rfl ?_
    try dsimp only [cxOf, Cx.nox, Cx.wish]
    unfold qF at hp hq
    obtain ⟨p1, p2⟩ := bp.big (Nat.le_refl _)
    obtain ⟨q1, q2⟩ := bq.big (Nat.le_refl _)
    walk_at "go"
    refine w_I (mulW (big_up p1 (by omega)) (big_up q1 (by omega))) ?_
    walk_at "go"
    refine w_I (mulW (big_up p2 (by omega)) (big_up q2 (by omega))) ?_
    walk_at "go"
    intro x dx hx hdx hne
    refine share_made hx hdx (by have := den_mul p q; omega) (big_up (mul_big p1 q1) (by omega)) (big_up (mul_big p2 q2) (by omega)) fun H' s r => ?_
    rw [← mul_parts] at r
    exact ⟨rfl, k _ _ s r⟩

def sp_L_common : Sp := fun vs H Q _ => ∃ a b : Nat, vs = [.int (a : Int), .int (b : Int)] ∧ b < 2 ^ 1400 ∧ Q (.int ((Nat.gcd a b : Nat) : Int)) H
theorem ok_L_common (T : Txt K mg) : FnOk P w K mg base CX0 1 T.a_L_common T.d_L_common ["_law_one", "_law_other"] sp_L_common := by
  refine T.F_L_common.ok sc_L_common (fun vs H Q E h => ?_) (fun cdv A outer s H vs Q E hr h => ?_)
  · obtain ⟨_, _, rfl, _⟩ := h
    rfl
  · obtain ⟨a, b, rfl, hb, k⟩ := h
    refine ⟨_, (pss_cons (ps_for PassesOwn.never rfl (pi_range1 rfl T.z_range (pa_cons pe_int pa_nil)) (pg_name (i := 2) sc_L_common.nd rfl (Or.inl rfl))
      (pss_cons (ps_if (pt_cmpR (k_eqG (K := K) rfl hr.units) (pv 1) pe_int (nomark _)) (pss_one ps_break) pss_nil)
      (pss_cons (ps_set (i := 3) sc_L_common.nd rfl (Or.inl rfl) (pe_op op_mod (pe_callTy cr_int1 (by rfl) T.z_int (by decide +kernel) (pa_cons (pv 0) pa_nil)) (pv 1)))
      (pss_cons (ps_set (i := 0) sc_L_common.nd rfl (Or.inl rfl) (pv 1))
      (pss_one (ps_set (i := 1) sc_L_common.nd rfl (Or.inl rfl) (pv 3)))))))
      (pss_one (ps_ret (pv 0)))), ?_⟩
    refine go_start (σ' := [some (.int (a : Int)), some (.int (b : Int)), none, none]) rfl ?_
    try dsimp only [cxOf, Cx.nox, Cx.wish]
    walk_at "go"
    refine l_range (fun i σ H' => ∃ (c d : Nat) (y2 y3 : Option V), σ = [some (.int (c : Int)), some (.int (d : Int)), y2, y3] ∧ H' = H ∧ Nat.gcd c d = Nat.gcd a b ∧ (i = 0 ∧ c = a ∧ d = b ∨ ∃ j, i = j + 1 ∧ d ≤ c ∧ c * d * 2 ^ j ≤ b * b))
      (by omega) (by omega) ⟨a, b, none, none, rfl, rfl, rfl, .inl ⟨rfl, rfl, rfl⟩⟩ ?_ ?_
    · rintro i σ H' hi ⟨c, d, y2, y3, rfl, rfl, hg, hs⟩
      walk_at "go"
      refine w_iteD (fun h => ?_) (fun h => ?_)
      · walk_at "go"
        have e : d = 0 := by omega
        subst e
        rw [Nat.gcd_zero_right] at hg
        rw [hg]
        exact k
      · have hd : 0 < d := by omega
        walk_at "go"
        refine ⟨d, c % d, some (.int (i : Int)), some (.int ((c : Int) % (d : Int))), ?_, rfl, (gcd_step c d).trans hg, .inr ⟨i, rfl, Nat.le_of_lt (Nat.mod_lt c hd), ?_⟩⟩
        · rw [Int.natCast_emod]
          rfl
        · rcases hs with ⟨rfl, rfl, rfl⟩ | ⟨j, rfl, hdc, hm⟩
          · rw [Nat.pow_zero, Nat.mul_one]
            exact Nat.mul_le_mul_left _ (Nat.le_of_lt (Nat.mod_lt c hd))
          · have h2 := euc_half hd hdc
            calc d * (c % d) * 2 ^ (j + 1) = (2 * (c % d)) * d * 2 ^ j := by rw [Nat.pow_succ]; ac_rfl
              _ ≤ c * d * 2 ^ j := Nat.mul_le_mul_right _ (Nat.mul_le_mul_right _ h2)
              _ ≤ b * b := hm
    · rintro σ H' ⟨c, d, y2, y3, rfl, rfl, hg, hs⟩
      walk_at "go"
      have e : d = 0 := by
        rcases hs with ⟨h, _⟩ | ⟨j, hj, hdc, hm⟩
        · exact absurd h (by decide)
        · refine Nat.eq_zero_of_not_pos fun hd => ?_
          have ej : j = 2999 := by
            have : ((3000 : Int).toNat) = j + 1 := hj
            have : (3000 : Nat) = j + 1 := this
            omega
          subst ej
          have h1 : 1 ≤ c * d := Nat.mul_pos (by omega) hd
          have h2 : 2 ^ 2999 ≤ b * b := Nat.le_trans (Nat.le_trans (by rw [Nat.one_mul]; exact Nat.le_refl _) (Nat.mul_le_mul_right (2 ^ 2999) h1)) hm
          have h3 : b * b < 2 ^ 1400 * 2 ^ 1400 := Nat.mul_lt_mul'' hb hb
          rw [← Nat.pow_add] at h3
          have h4 : 2 ^ (1400 + 1400) ≤ 2 ^ 2999 := Nat.pow_le_pow_right (by omega) (by omega)
          omega
      subst e
      rw [Nat.gcd_zero_right] at hg
      rw [hg]
      exact k
def sp_L_least (K : PySem.W.Frag) : Sp := fun vs H Q _ => ∃ a b : Int, vs = [.int a, .int b] ∧ b ≠ 0 ∧ a.natAbs < 2 ^ 4000 ∧ b.natAbs < 2 ^ 1400 ∧ ∀ v' H', Same H H' → RFrac K H' v' (Rat.divInt a b) → Q v' H'
theorem ok_L_least (T : Txt K mg) : FnOk P w K mg base CX0 2 T.a_L_least T.d_L_least ["_law_over", "_law_under"] (sp_L_least K) := by
  refine T.F_L_least.ok sc_L_least (fun vs H Q E h => ?_) (fun cdv A outer s H vs Q E hr h => ?_)
  · obtain ⟨_, _, rfl, _⟩ := h
    rfl
  · obtain ⟨a, b, rfl, hb, ha1, hb1, k⟩ := h
    refine ⟨_, (Evl.pss_cut (ps_if (pt_cmpR op_lt (pv 1) pe_int (nomark _)) (pss_cons (ps_set (i := 0) sc_L_least.nd rfl (Or.inl rfl) (pe_un un_neg (pv 0)))
      (pss_one (ps_set (i := 1) sc_L_least.nd rfl (Or.inl rfl) (pe_un un_neg (pv 1))))) pss_nil)
      (pss_cons (ps_set (i := 2) sc_L_least.nd rfl (Or.inl rfl) (pe_call (ok_L_common T) (hr.mono (by decide)) (by rfl) T.g_L_common T.F_L_common.kp T.b_L_common .nil pass0 (pa_cons (pe_callB cr_abs (by rfl) T.z_abs (by decide +kernel) (pa_cons (pv 0) pa_nil)) (pa_cons (pv 1) pa_nil))))
      (pss_one (ps_ret (pe_tup (pa_cons (pe_op op_fdivV (pv 0) (pv 2)) (pa_cons (pe_op op_fdivV (pv 1) (pv 2)) pa_nil))))))), ?_⟩
    refine go_start (σ' := [some (.int a), some (.int b), none]) rfl ?_
    try dsimp only [cxOf, Cx.nox, Cx.wish]
    walk_at "go"
    refine w_cut (fun σ H' => ∃ c d : Int, σ = [some (.int c), some (.int d), none] ∧ H' = H ∧ 0 < d ∧ c.natAbs < 2 ^ 4000 ∧ d.natAbs < 2 ^ 1400 ∧ Rat.divInt c d = Rat.divInt a b) ?_ ?_
    · walk_at "go"
      refine w_iteD (fun h => ?_) (fun h => ?_)
      · walk_at "go"
        exact ⟨-a, -b, rfl, rfl, by omega, by rw [Int.natAbs_neg]; exact ha1, by rw [Int.natAbs_neg]; exact hb1, Rat.neg_divInt_neg a b⟩
      · walk_at "go"
        exact ⟨a, b, rfl, rfl, by omega, ha1, hb1, rfl⟩
    · rintro σ H' ⟨c, d, rfl, rfl, hd, hc1, hd1, e⟩
      walk_at "go"
      rw [abs_eq]
      have ed : (d : Int) = ((d.natAbs : Nat) : Int) := by omega
      refine ⟨c.natAbs, d.natAbs, by rw [← ed]; rfl, hd1, ?_⟩
      have hg := gcd_pos (a := c) (b := d) (by omega)
      have h1 := div_num (a := c) (b := d) hd
      have h2 := div_den (a := c) (b := d) hd
      generalize hG : ((Nat.gcd c.natAbs d.natAbs : Nat) : Int) = g at hg h1 h2 ⊢
      walk_at "go"
      refine w_I ⟨by omega, hc1⟩ ?_
      walk_at "go"
      refine w_I ⟨by omega, big_up hd1 (by omega)⟩ ?_
      walk_at "go"
      refine ⟨by show 2 ≤ sizeLine; decide, fun p hp => ?_⟩
      walk_at "go"
      refine k _ _ (Same.new hp) ⟨p, rfl, Sq.tup ?_⟩
      rw [upd_same, ← e, h1, h2, fdiv_pos hg, fdiv_pos hg]
def sp_L_by (K : PySem.W.Frag) : Sp := fun vs H Q _ => ∃ (x y : V) (p q : Rat), vs = [x, y] ∧ RFrac K H x p ∧ RFrac K H y q ∧ RB 600 p ∧ RB 600 q ∧ ∀ v' H', Same H H' → RFrac K H' v' (p * q) → Q v' H'
theorem ok_L_by (T : Txt K mg) : FnOk P w K mg base CX0 3 T.a_L_by T.d_L_by ["_law_one", "_law_other"] (sp_L_by K) := by
  refine T.F_L_by.ok sc_L_by (fun vs H Q E h => ?_) (fun cdv A outer s H vs Q E hr h => ?_)
  · obtain ⟨_, _, _, _, rfl, _⟩ := h
    rfl
  · obtain ⟨x, y, p, q, rfl, ⟨ap, rfl, hp⟩, ⟨aq, rfl, hq⟩, bp, bq, k⟩ := h
    refine ⟨_, (pss_one (ps_ret (pe_call (ok_L_least T) (hr.mono (by decide)) (by rfl) T.g_L_least T.F_L_least.kp T.b_L_least .nil pass0 (pa_cons (pe_op op_mulX (pe_ix (k_ix (K := K) rfl) (pv 0) pe_int (fun _ _ => rfl)) (pe_ix (k_ix (K := K) rfl) (pv 1) pe_int (fun _ _ => rfl))) (pa_cons (pe_op op_mulX (pe_ix (k_ix (K := K) rfl) (pv 0) pe_int (fun _ _ => rfl)) (pe_ix (k_ix (K := K) rfl) (pv 1) pe_int (fun _ _ => rfl))) pa_nil))))), ?_⟩
    refine go_start (σ' := [some (.ref ap), some (.ref aq)]) rfl ?_
    try dsimp only [cxOf, Cx.nox, Cx.wish]
    have p1 := bp.1
    have q1 := bq.1
    have p2 : (p.den : Int).natAbs < 2 ^ 600 := by rw [Int.natAbs_natCast]; exact bp.2
    have q2 : (q.den : Int).natAbs < 2 ^ 600 := by rw [Int.natAbs_natCast]; exact bq.2
    walk_at "go"
    refine w_ix hp (atI_nat (j := 0) rfl) ?_
    walk_at "go"
    refine w_ix hq (atI_nat (j := 0) rfl) ?_
    walk_at "go"
    refine w_I (mulW (big_up p1 (by omega)) (big_up q1 (by omega))) ?_
    walk_at "go"
    refine w_ix hp (atI_nat (j := 1) rfl) ?_
    walk_at "go"
    refine w_ix hq (atI_nat (j := 1) rfl) ?_
    walk_at "go"
    refine w_I (mulW (big_up p2 (by omega)) (big_up q2 (by omega))) ?_
    walk_at "go"
    refine ⟨_, _, rfl, by have := den_mul p q; omega, big_up (mul_big p1 q1) (by omega), big_up (mul_big p2 q2) (by omega), fun v' H' s r => ?_⟩
    rw [← mul_parts] at r
    exact k _ _ s r
def sp_L_plus (K : PySem.W.Frag) : Sp := fun vs H Q _ => ∃ (x y : V) (p q : Rat), vs = [x, y] ∧ RFrac K H x p ∧ RFrac K H y q ∧ RB 600 p ∧ RB 600 q ∧ ∀ v' H', Same H H' → RFrac K H' v' (p + q) → Q v' H'
theorem add_big {i j : Int} {n : Nat} (h1 : i.natAbs < 2 ^ n) (h2 : j.natAbs < 2 ^ n) : (i + j).natAbs < 2 ^ (n + 1) := by
  rw [Nat.pow_succ]
  have := Int.natAbs_add_le i j
  omega
theorem ok_L_plus (T : Txt K mg) : FnOk P w K mg base CX0 3 T.a_L_plus T.d_L_plus ["_law_one", "_law_other"] (sp_L_plus K) := by
  refine T.F_L_plus.ok sc_L_plus (fun vs H Q E h => ?_) (fun cdv A outer s H vs Q E hr h => ?_)
  · obtain ⟨_, _, _, _, rfl, _⟩ := h
    rfl
  · obtain ⟨x, y, p, q, rfl, ⟨ap, rfl, hp⟩, ⟨aq, rfl, hq⟩, bp, bq, k⟩ := h
    refine ⟨_, (pss_one (ps_ret (pe_call (ok_L_least T) (hr.mono (by decide)) (by rfl) T.g_L_least T.F_L_least.kp T.b_L_least .nil pass0 (pa_cons (pe_op (k_addG (K := K) rfl) (pe_op op_mulX (pe_ix (k_ix (K := K) rfl) (pv 0) pe_int (fun _ _ => rfl)) (pe_ix (k_ix (K := K) rfl) (pv 1) pe_int (fun _ _ => rfl))) (pe_op op_mulX (pe_ix (k_ix (K := K) rfl) (pv 1) pe_int (fun _ _ => rfl)) (pe_ix (k_ix (K := K) rfl) (pv 0) pe_int (fun _ _ => rfl)))) (pa_cons (pe_op op_mulX (pe_ix (k_ix (K := K) rfl) (pv 0) pe_int (fun _ _ => rfl)) (pe_ix (k_ix (K := K) rfl) (pv 1) pe_int (fun _ _ => rfl))) pa_nil))))), ?_⟩
    refine go_start (σ' := [some (.ref ap), some (.ref aq)]) rfl ?_
    try dsimp only [cxOf, Cx.nox, Cx.wish]
    have p1 := bp.1
    have q1 := bq.1
    have p2 : (p.den : Int).natAbs < 2 ^ 600 := by rw [Int.natAbs_natCast]; exact bp.2
    have q2 : (q.den : Int).natAbs < 2 ^ 600 := by rw [Int.natAbs_natCast]; exact bq.2
    walk_at "go"
    refine w_ix hp (atI_nat (j := 0) rfl) ?_
    walk_at "go"
    refine w_ix hq (atI_nat (j := 1) rfl) ?_
    walk_at "go"
    refine w_I (mulW (big_up p1 (by omega)) (big_up q2 (by omega))) ?_
    walk_at "go"
    refine w_ix hq (atI_nat (j := 0) rfl) ?_
    walk_at "go"
    refine w_ix hp (atI_nat (j := 1) rfl) ?_
    walk_at "go"
    refine w_I (mulW (big_up q1 (by omega)) (big_up p2 (by omega))) ?_
    walk_at "go"
    refine w_ix hp (atI_nat (j := 1) rfl) ?_
    walk_at "go"
    refine w_ix hq (atI_nat (j := 1) rfl) ?_
    walk_at "go"
    refine w_I (mulW (big_up p2 (by omega)) (big_up q2 (by omega))) ?_
    walk_at "go"
    refine ⟨_, _, rfl, by have := den_mul p q; omega, big_up (add_big (mul_big p1 q2) (mul_big q1 p2)) (by omega), big_up (mul_big p2 q2) (by omega), fun v' H' s r => ?_⟩
    rw [← add_parts] at r
    exact k _ _ s r
/-- _law_is_share of the same -/
def sp_L_is_share (K : PySem.W.Frag) (C : Addr) : Sp := fun vs H Q _ => ∃ (x y : V) (q : Rat), vs = [x, y] ∧ RShare C H x q ∧ RFrac K H y q ∧ ∀ H', Same H H' → Q (.bl true) H'
theorem ok_L_is_share (T : Txt K mg) : FnOk P w K mg base CX0 5 T.a_L_is_share T.d_L_is_share ["_law_told", "_law_due"] (sp_L_is_share K T.c_Share) := by
  refine T.F_L_is_share.ok sc_L_is_share (fun vs H Q E h => ?_) (fun cdv A outer s H vs Q E hr h => ?_)
  · obtain ⟨_, _, _, rfl, _⟩ := h
    rfl
  · obtain ⟨x, y, q, rfl, ⟨ap, dp, rfl, hp⟩, ⟨aq, rfl, hq⟩, k⟩ := h
    have cS := T.C_Share
    have n0 := T.n_Share_over
    have n1 := T.n_Share_under
    unfold qF at hp
    refine ⟨_, (pss_one (ps_ret (pe_call (ok_L_same_at T 3) (hr.mono (by decide)) (by rfl) T.g_L_same T.F_L_same.kp T.b_L_same .nil pass0 (pa_cons (pe_tup (pa_cons (k_fld (K := K) rfl (pv 0) rfl) (pa_cons (k_fld (K := K) rfl (pv 0) rfl) pa_nil))) (pa_cons (pv 1) pa_nil))))), ?_⟩
    refine go_start (σ' := [some (.ref ap), some (.ref aq)]) rfl ?_
    try dsimp only [cxOf, Cx.nox, Cx.wish]
    walk_at "go"
    refine ⟨by show 2 ≤ sizeLine; decide, fun p hpn => ?_⟩
    have s1 := Same.new (o := .tup [.int q.num, .int (q.den : Int)]) hpn
    walk_at "go"
    refine ⟨_, _, rfl, .inr ⟨p, aq, false, _, _, rfl, rfl, Sq.tup upd_same, s1.sq hq, rfl, by show 2 ≤ _; omega, fun i x' y' h1 h2 => ?_⟩, k _ s1⟩
    rw [h1] at h2
    cases h2
    match i, h1 with
    | 0, h1 => cases h1; exact Sm.int
    | 1, h1 => cases h1; exact Sm.int
    | i + 2, h1 => cases h1

/-! ### Share: refused; the other operations -/
def sp_ShareX (C CE : Addr) : Sp := fun vs H _ E => ∃ (p dx : Addr) (a : Int), vs = [.ref p, .int a, .int 0] ∧ H p = some (.ins C dx []) ∧ ∀ d, H d = none → E (.ref CE) (some d) (upd H d (.xd [("number", .int 0)]))
theorem okX_Share___init__ (T : Txt K mg) : FnOk P w K mg base (L2.CX P w) 3 T.a_Share___init__ T.d_Share___init__ ["self", "over", "under"] (sp_ShareX T.c_Share T.c_InvalidNumber) := by
  refine T.F_Share___init__.okX sc_Share___init__ (fun vs H Q E h => ?_) (fun cdv A outer s H vs Q E hr h => ?_)
  · obtain ⟨_, _, _, rfl, _⟩ := h
    rfl
  · obtain ⟨p, dx, a, rfl, h0, k⟩ := h
    refine ⟨_, (pss_cons (ps_if (pt_cmpR (k_eqG (K := K) rfl hr.units) (pv 2) pe_int (nomark _)) (pss_one (ps_raise rfl (takes_of rfl rfl rfl rfl) (pmk_oex T.ox_InvalidNumber T.ic_InvalidNumber T.ti_InvalidNumber (ok_InvalidNumber___init__ T) (hr.mono (by decide)) T.b_InvalidNumber___init__ .nil pass0 rfl T.gc_InvalidNumber (pa_cons (pv 2) pa_nil)))) pss_nil)
      (PSs.nox (pss_cons (ps_set (i := 3) sc_Share___init__.nd rfl (Or.inl rfl) (pe_call (ok_greatest_divisor T) (hr.mono (by decide)) (by rfl) T.g_greatest_divisor T.F_greatest_divisor.kp T.b_greatest_divisor .nil pass0 (pa_cons (pe_callB cr_abs (by rfl) T.z_abs (by decide +kernel) (pa_cons (pv 1) pa_nil)) (pa_cons (pe_callB cr_abs (by rfl) T.z_abs (by decide +kernel) (pa_cons (pv 2) pa_nil)) pa_nil))))
      (pss_cons (ps_if (pt_cmpR op_lt (pv 2) pe_int (nomark _)) (pss_one (ps_set (i := 3) sc_Share___init__.nd rfl (Or.inl rfl) (pe_un un_neg (pv 3)))) pss_nil)
      (pss_cons (k_sfld (K := K) rfl (pv 0) (pe_op op_fdivV (pv 1) (pv 3)) rfl)
      (pss_one (k_sfld (K := K) rfl (pv 0) (pe_op op_fdivV (pv 2) (pv 3)) rfl))))))), ?_⟩
    refine go_start (σ' := [some (.ref p), some (.int a), some (.int 0), none]) rfl ?_
    try dsimp only [cxOf, Cx.nox, Cx.wish]
    walk_at "go"
    refine w_mkErrV T.ox_InvalidNumber T.nf_InvalidNumber rfl fun d hd => ?_
    exact k d hd
theorem neg_parts (q : Rat) : Rat.divInt (-q.num) (q.den : Int) = -q := by
  rw [← Rat.neg_divInt, Rat.num_divInt_den]
theorem sub_parts (p q : Rat) : p - q = Rat.divInt (p.num * (q.den : Int) - q.num * (p.den : Int)) ((p.den : Int) * (q.den : Int)) := by
  have d1 := p.den_nz
  have d2 := q.den_nz
  rw [← Rat.divInt_sub_divInt _ _ (by omega) (by omega), Rat.num_divInt_den, Rat.num_divInt_den]
theorem sub_big {i j : Int} {n : Nat} (h1 : i.natAbs < 2 ^ n) (h2 : j.natAbs < 2 ^ n) : (i - j).natAbs < 2 ^ (n + 1) := by
  rw [Int.sub_eq_add_neg]
  exact add_big h1 (by rw [Int.natAbs_neg]; exact h2)
def sp_Share___add__ (C : Addr) : Sp := fun vs H Q _ => ∃ (x y : V) (p q : Rat), vs = [x, y] ∧ RShare C H x p ∧ RShare C H y q ∧ RB 1000 p ∧ RB 1000 q ∧ ∀ v' H', Same H H' → RShare C H' v' (p + q) → Q v' H'
theorem ok_Share___add__ (T : Txt K mg) : FnOk P w K mg base CX0 5 T.a_Share___add__ T.d_Share___add__ ["self", "other"] (sp_Share___add__ T.c_Share) := by
  refine T.F_Share___add__.ok sc_Share___add__ (fun vs H Q E h => ?_) (fun cdv A outer s H vs Q E hr h => ?_)
  · obtain ⟨_, _, _, _, rfl, _⟩ := h
    rfl
  · obtain ⟨x, y, p, q, rfl, ⟨ap, dp, rfl, hp⟩, ⟨aq, dq, rfl, hq⟩, bp, bq, k⟩ := h
    have cS := T.C_Share
    have n0 := T.n_Share_over
    have n1 := T.n_Share_under
    refine ⟨_, (pss_one (ps_ret (pe_make T.M_Share (ok_Share___init__ T) (hr.mono (by decide)) rfl T.gc_Share T.b_Share___init__ .nil pass0 (pa_cons (pe_op (k_addG (K := K) rfl) (pe_op op_mulX (k_fld (K := K) rfl (pv 0) rfl) (k_fld (K := K) rfl (pv 1) rfl)) (pe_op op_mulX (k_fld (K := K) rfl (pv 1) rfl) (k_fld (K := K) rfl (pv 0) rfl))) (pa_cons (pe_op op_mulX (k_fld (K := K) rfl (pv 0) rfl) (k_fld (K := K) rfl (pv 1) rfl)) pa_nil))))), ?_⟩
    refine go_start (σ' := [some (.ref ap), some (.ref aq)]) rfl ?_
    try dsimp only [cxOf, Cx.nox, Cx.wish]
    unfold qF at hp hq
    obtain ⟨p1, p2⟩ := bp.big (Nat.le_refl _)
    obtain ⟨q1, q2⟩ := bq.big (Nat.le_refl _)
    walk_at "go"
    refine w_I (mulW (big_up p1 (by omega)) (big_up q2 (by omega))) ?_
    walk_at "go"
    refine w_I (mulW (big_up q1 (by omega)) (big_up p2 (by omega))) ?_
    walk_at "go"
    refine w_I (mulW (big_up p2 (by omega)) (big_up q2 (by omega))) ?_
    walk_at "go"
    intro x dx hx hdx hne
    refine share_made hx hdx (by have := den_mul p q; omega) (big_up (add_big (mul_big p1 q2) (mul_big q1 p2)) (by omega)) (big_up (mul_big p2 q2) (by omega)) fun H' s r => ?_
    rw [← add_parts] at r
    exact ⟨rfl, k _ _ s r⟩
def sp_Share___sub__ (C : Addr) : Sp := fun vs H Q _ => ∃ (x y : V) (p q : Rat), vs = [x, y] ∧ RShare C H x p ∧ RShare C H y q ∧ RB 1000 p ∧ RB 1000 q ∧ ∀ v' H', Same H H' → RShare C H' v' (p - q) → Q v' H'
theorem ok_Share___sub__ (T : Txt K mg) : FnOk P w K mg base CX0 5 T.a_Share___sub__ T.d_Share___sub__ ["self", "other"] (sp_Share___sub__ T.c_Share) := by
  refine T.F_Share___sub__.ok sc_Share___sub__ (fun vs H Q E h => ?_) (fun cdv A outer s H vs Q E hr h => ?_)
  · obtain ⟨_, _, _, _, rfl, _⟩ := h
    rfl
  · obtain ⟨x, y, p, q, rfl, ⟨ap, dp, rfl, hp⟩, ⟨aq, dq, rfl, hq⟩, bp, bq, k⟩ := h
    have cS := T.C_Share
    have n0 := T.n_Share_over
    have n1 := T.n_Share_under
    refine ⟨_, (pss_one (ps_ret (pe_make T.M_Share (ok_Share___init__ T) (hr.mono (by decide)) rfl T.gc_Share T.b_Share___init__ .nil pass0 (pa_cons (pe_op op_sub (pe_op op_mulX (k_fld (K := K) rfl (pv 0) rfl) (k_fld (K := K) rfl (pv 1) rfl)) (pe_op op_mulX (k_fld (K := K) rfl (pv 1) rfl) (k_fld (K := K) rfl (pv 0) rfl))) (pa_cons (pe_op op_mulX (k_fld (K := K) rfl (pv 0) rfl) (k_fld (K := K) rfl (pv 1) rfl)) pa_nil))))), ?_⟩
    refine go_start (σ' := [some (.ref ap), some (.ref aq)]) rfl ?_
    try dsimp only [cxOf, Cx.nox, Cx.wish]
    unfold qF at hp hq
    obtain ⟨p1, p2⟩ := bp.big (Nat.le_refl _)
    obtain ⟨q1, q2⟩ := bq.big (Nat.le_refl _)
    walk_at "go"
    refine w_I (mulW (big_up p1 (by omega)) (big_up q2 (by omega))) ?_
    walk_at "go"
    refine w_I (mulW (big_up q1 (by omega)) (big_up p2 (by omega))) ?_
    walk_at "go"
    refine w_I (mulW (big_up p2 (by omega)) (big_up q2 (by omega))) ?_
    walk_at "go"
    intro x dx hx hdx hne
    refine share_made hx hdx (by have := den_mul p q; omega) (big_up (sub_big (mul_big p1 q2) (mul_big q1 p2)) (by omega)) (big_up (mul_big p2 q2) (by omega)) fun H' s r => ?_
    rw [← sub_parts] at r
    exact ⟨rfl, k _ _ s r⟩
/-- p less than q, as the code asks -/
def belowR (p q : Rat) : Bool := decide (p.num * (q.den : Int) < q.num * (p.den : Int))
theorem cross_eq {p q : Rat} (h : p.num * (q.den : Int) = q.num * (p.den : Int)) : p = q := by
  rw [← Rat.num_divInt_den p, ← Rat.num_divInt_den q]
  have d1 := p.den_nz
  have d2 := q.den_nz
  exact (Rat.divInt_eq_divInt_iff (by omega) (by omega)).mpr h
def lesserR (p q : Rat) : Rat := if belowR p q = true then p else q
theorem lesser_comm (p q : Rat) : lesserR p q = if belowR q p = true then q else p := by
  unfold lesserR belowR
  by_cases h1 : p.num * (q.den : Int) < q.num * (p.den : Int)
  · rw [if_pos (decide_eq_true h1), if_neg (by rw [decide_eq_true_eq]; omega)]
  · rw [if_neg (by rw [decide_eq_true_eq]; exact h1)]
    by_cases h2 : q.num * (p.den : Int) < p.num * (q.den : Int)
    · rw [if_pos (decide_eq_true h2)]
    · rw [if_neg (by rw [decide_eq_true_eq]; exact h2)]
      exact (cross_eq (by omega)).symm
def sp_Share_is_below (C : Addr) : Sp := fun vs H Q _ => ∃ (x y : V) (p q : Rat), vs = [x, y] ∧ RShare C H x p ∧ RShare C H y q ∧ RB 1000 p ∧ RB 1000 q ∧ Q (.bl (belowR p q)) H
theorem ok_Share_is_below (T : Txt K mg) : FnOk P w K mg base CX0 1 T.a_Share_is_below T.d_Share_is_below ["self", "other"] (sp_Share_is_below T.c_Share) := by
  refine T.F_Share_is_below.ok sc_Share_is_below (fun vs H Q E h => ?_) (fun cdv A outer s H vs Q E hr h => ?_)
  · obtain ⟨_, _, _, _, rfl, _⟩ := h
    rfl
  · obtain ⟨x, y, p, q, rfl, ⟨ap, dp, rfl, hp⟩, ⟨aq, dq, rfl, hq⟩, bp, bq, k⟩ := h
    have cS := T.C_Share
    have n0 := T.n_Share_over
    have n1 := T.n_Share_under
    refine ⟨_, (pss_one (ps_ret (pe_cmpR op_lt (pe_op op_mulX (k_fld (K := K) rfl (pv 0) rfl) (k_fld (K := K) rfl (pv 1) rfl)) (pe_op op_mulX (k_fld (K := K) rfl (pv 1) rfl) (k_fld (K := K) rfl (pv 0) rfl)) (nomark _)))), ?_⟩
    refine go_start (σ' := [some (.ref ap), some (.ref aq)]) rfl ?_
    try dsimp only [cxOf, Cx.nox, Cx.wish]
    unfold qF at hp hq
    obtain ⟨p1, p2⟩ := bp.big (Nat.le_refl _)
    obtain ⟨q1, q2⟩ := bq.big (Nat.le_refl _)
    walk_at "go"
    refine w_I (mulW (big_up p1 (by omega)) (big_up q2 (by omega))) ?_
    walk_at "go"
    refine w_I (mulW (big_up q1 (by omega)) (big_up p2 (by omega))) ?_
    walk_at "go"
    exact k
def sp_lesser_of (C : Addr) : Sp := fun vs H Q _ => ∃ (x y : V) (p q : Rat), vs = [x, y] ∧ RShare C H x p ∧ RShare C H y q ∧ RB 1000 p ∧ RB 1000 q ∧ ∀ v', RShare C H v' (lesserR p q) → Q v' H
theorem ok_lesser_of (T : Txt K mg) : FnOk P w K mg base CX0 2 T.a_lesser_of T.d_lesser_of ["share", "other"] (sp_lesser_of T.c_Share) := by
  refine T.F_lesser_of.ok sc_lesser_of (fun vs H Q E h => ?_) (fun cdv A outer s H vs Q E hr h => ?_)
  · obtain ⟨_, _, _, _, rfl, _⟩ := h
    rfl
  · obtain ⟨x, y, p, q, rfl, hx, hy, bp, bq, k⟩ := h
    obtain ⟨ap, dp, rfl, hp⟩ := id hx
    obtain ⟨aq, dq, rfl, hq⟩ := id hy
    have cS := T.C_Share
    refine ⟨_, (pss_one (ps_ret (pe_ifExp (k_tru (K := K) rfl (pe_meth (pv 0) T.C_Share T.m_Share_is_below (ok_Share_is_below T) (hr.mono (by decide)) T.b_Share_is_below .nil pass0 (pa_cons (pv 1) pa_nil)) (by intro _; rfl)) (pv 0) (pv 1)))), ?_⟩
    refine go_start (σ' := [some (.ref ap), some (.ref aq)]) rfl ?_
    try dsimp only [cxOf, Cx.nox, Cx.wish]
    walk_at "go"
    refine ⟨_, _, p, q, rfl, hx, hy, bp, bq, ?_⟩
    walk_at "go"
    refine w_iteB (fun hb => ?_) (fun hb => ?_)
    · walk_at "go"
      exact k _ (by unfold lesserR; rw [if_pos hb]; exact hx)
    · walk_at "go"
      exact k _ (by unfold lesserR; rw [hb, if_neg Bool.false_ne_true]; exact hy)
theorem eqv_frac (a b c d : Int) : PyData.eqv (.tuple [.int a, .int b]) (.tuple [.int c, .int d]) = decide (a = c ∧ b = d) := by
  simp only [PyData.eqv, PyData.eqvAll]
  by_cases h1 : a = c <;> by_cases h2 : b = d <;> simp [h1, h2]
theorem shaped_frac (a b : Int) : SeqAt.shaped (.tuple [.int a, .int b]) = true := shaped_intsT [a, b]
theorem dp_frac {K : PySem.W.Frag} {H : Hp} {t : Addr} {a b : Int} (h : Sq false K H t [.int a, .int b]) : Dp K H (.ref t) (.tuple [.int a, .int b]) := .tup h (.cons (.int _) (.cons (.int _) .nil))
theorem same_rat (p q : Rat) : decide (p.num = q.num ∧ (p.den : Int) = (q.den : Int)) = decide (p = q) := by
  by_cases h : p = q
  · subst h
    simp
  · rw [decide_eq_false h, decide_eq_false]
    intro ⟨h1, h2⟩
    exact h (Rat.ext h1 (by omega))
def sp_Share___eq__ (K : PySem.W.Frag) (C : Addr) : Sp := fun vs H Q _ => ∃ (x y : V) (p : Rat), vs = [x, y] ∧ RShare C H x p ∧
  ((∃ q : Rat, RShare C H y q ∧ ∀ H', Same H H' → Q (.bl (decide (p = q))) H') ∨
    ∃ n : String, TyX K H y (.type n) ∧ PySem.W.subIn K (.type n) (.ref C) = some false ∧ Q (.bl false) H)
theorem ok_Share___eq__ (T : Txt K mg) : FnOk P w K mg base CX0 1 T.a_Share___eq__ T.d_Share___eq__ ["self", "other"] (sp_Share___eq__ K T.c_Share) := by
  refine T.F_Share___eq__.ok sc_Share___eq__ (fun vs H Q E h => ?_) (fun cdv A outer s H vs Q E hr h => ?_)
  · obtain ⟨_, _, _, rfl, _⟩ := h
    rfl
  · obtain ⟨x, y, p, rfl, ⟨ap, dp, rfl, hp⟩, h⟩ := h
    have cS := T.C_Share
    have n0 := T.n_Share_over
    have n1 := T.n_Share_under
    unfold qF at hp
    refine ⟨_, (pss_cons (ps_if (pt_not (k_tru (K := K) rfl (pe_callB (k_isi (K := K) rfl) (by rfl) T.z_isinstance (by decide +kernel) (pa_cons (pv 1) (pa_cons (pe_glob (v := .ref T.c_Share) (by rfl) T.gc_Share rfl) pa_nil))) (by intro _; rfl))) (pss_one (ps_ret pe_bl)) pss_nil)
      (pss_one (ps_ret (pe_cmpR (k_eqG (K := K) rfl hr.units) (pe_tup (pa_cons (k_fld (K := K) rfl (pv 0) rfl) (pa_cons (k_fld (K := K) rfl (pv 0) rfl) pa_nil))) (pe_tup (pa_cons (k_fld (K := K) rfl (pv 1) rfl) (pa_cons (k_fld (K := K) rfl (pv 1) rfl) pa_nil))) (nomark _))))), ?_⟩
    refine go_start (σ' := [some (.ref ap), some y]) rfl ?_
    try dsimp only [cxOf, Cx.nox, Cx.wish]
    rcases h with ⟨q, ⟨aq, dq, rfl, hq⟩, k⟩ | ⟨n, ht, hsub, k⟩
    · unfold qF at hq
      walk_at "go"
      refine w_isOwn T.o_Share cS hq ?_
      walk_at "go"
      refine ⟨by show 2 ≤ sizeLine; decide, fun p1 hp1 => ?_⟩
      have s1 := Same.new (o := .tup [.int p.num, .int (p.den : Int)]) hp1
      have e1 : (upd H p1 (.tup [.int p.num, .int (p.den : Int)])) p1 = some (.tup [.int p.num, .int (p.den : Int)]) := upd_same
      generalize upd H p1 (.tup [.int p.num, .int (p.den : Int)]) = H1 at s1 e1 ⊢
      have hq := s1 _ _ hq
      walk_at "go"
      refine ⟨by show 2 ≤ sizeLine; decide, fun p2 hp2 => ?_⟩
      have s2 := Same.new (o := .tup [.int q.num, .int (q.den : Int)]) hp2
      refine w_eqD (dp_frac (Sq.tup (s2 _ _ e1))) (dp_frac (Sq.tup upd_same)) (shaped_frac _ _) (shaped_frac _ _) ?_
      rw [eqv_frac, same_rat]
      exact k _ (s1.trans s2)
    · walk_at "go"
      refine w_isNot T.o_Share ht hsub ?_
      walk_at "go"
      exact k
def sp_L_is_below (K : PySem.W.Frag) : Sp := fun vs H Q _ => ∃ (x y : V) (p q : Rat), vs = [x, y] ∧ RFrac K H x p ∧ RFrac K H y q ∧ RB 1000 p ∧ RB 1000 q ∧ Q (.bl (belowR p q)) H
theorem ok_L_is_below (T : Txt K mg) : FnOk P w K mg base CX0 1 T.a_L_is_below T.d_L_is_below ["_law_one", "_law_other"] (sp_L_is_below K) := by
  refine T.F_L_is_below.ok sc_L_is_below (fun vs H Q E h => ?_) (fun cdv A outer s H vs Q E hr h => ?_)
  · obtain ⟨_, _, _, _, rfl, _⟩ := h
    rfl
  · obtain ⟨x, y, p, q, rfl, ⟨ap, rfl, hp⟩, ⟨aq, rfl, hq⟩, bp, bq, k⟩ := h
    refine ⟨_, (pss_one (ps_ret (pe_cmpR op_lt (pe_op op_mulX (pe_ix (k_ix (K := K) rfl) (pv 0) pe_int (fun _ _ => rfl)) (pe_ix (k_ix (K := K) rfl) (pv 1) pe_int (fun _ _ => rfl))) (pe_op op_mulX (pe_ix (k_ix (K := K) rfl) (pv 1) pe_int (fun _ _ => rfl)) (pe_ix (k_ix (K := K) rfl) (pv 0) pe_int (fun _ _ => rfl))) (nomark _)))), ?_⟩
    refine go_start (σ' := [some (.ref ap), some (.ref aq)]) rfl ?_
    try dsimp only [cxOf, Cx.nox, Cx.wish]
    obtain ⟨p1, p2⟩ := bp.big (Nat.le_refl _)
    obtain ⟨q1, q2⟩ := bq.big (Nat.le_refl _)
    walk_at "go"
    refine w_ix hp (atI_nat (j := 0) rfl) ?_
    walk_at "go"
    refine w_ix hq (atI_nat (j := 1) rfl) ?_
    walk_at "go"
    refine w_I (mulW (big_up p1 (by omega)) (big_up q2 (by omega))) ?_
    walk_at "go"
    refine w_ix hq (atI_nat (j := 0) rfl) ?_
    walk_at "go"
    refine w_ix hp (atI_nat (j := 1) rfl) ?_
    walk_at "go"
    refine w_I (mulW (big_up q1 (by omega)) (big_up p2 (by omega))) ?_
    walk_at "go"
    exact k

/-! ### the law's numbers, fractions -/
def RRaw : Rep (Int × Int) := fun H v q => ∃ a, v = .ref a ∧ H a = some (.tup [.int q.1, .int q.2])
theorem RRaw.mono : RMono RRaw := fun _ _ _ _ s ⟨a, e, h⟩ => ⟨a, e, s _ _ h⟩
theorem RRaw.lst : RLst RRaw := fun H D v q ys hD ⟨a, e, h⟩ => ⟨a, e, by
  rw [hide_ne (fun e => by rw [e, hD] at h; cases h)]
  exact h⟩
theorem RRaw.tup : RTup RRaw := fun H D v q hn ⟨a, e, h⟩ => ⟨a, e, by
  rw [hide_ne (fun e => by subst e; rw [h] at hn; exact hn)]
  exact h⟩
def big40 (z : Int) : Prop := -(10 ^ 40) < z ∧ z < 10 ^ 40
theorem big40_bits {z : Int} (h : big40 z) : z.natAbs < 2 ^ 133 := by
  obtain ⟨h1, h2⟩ := h
  have e : (2 : Nat) ^ 133 = 10889035741470030830827987437816582766592 := by decide
  rw [e]
  omega
def p1000 (i : Nat) : Int := 1000 ^ i
def B1000 (g : Int) (i : Nat) : Prop := 0 ≤ g ∧ g < p1000 i
theorem B1000.step {g x : Int} {i : Nat} (h : B1000 g i) (h0 : 0 ≤ x) (hx : x < 1000) : B1000 (g * 1000 + x) (i + 1) := by
  obtain ⟨hg, h⟩ := h
  refine ⟨by omega, ?_⟩
  have e : p1000 (i + 1) = p1000 i * 1000 := Int.pow_succ ..
  rw [e]
  have := Int.mul_le_mul_of_nonneg_right (show g + 1 ≤ p1000 i by omega) (show (0 : Int) ≤ 1000 by omega)
  omega
theorem p1000_le {i : Nat} (h : i ≤ 13) : p1000 i ≤ 1000000000000000000000000000000000000000 := by
  have e : p1000 13 = 1000000000000000000000000000000000000000 := by decide
  rw [← e]
  unfold p1000
  have := Nat.pow_le_pow_right (n := 1000) (by omega) h
  exact_mod_cast this
def big39 (z : Int) : Prop := 0 ≤ z ∧ z < 1000000000000000000000000000000000000000
theorem big39_bits {z : Int} (h : big39 z) : z.natAbs < 2 ^ 2000 := by
  obtain ⟨h1, h2⟩ := h
  exact big_up (n := 133) (big40_bits ⟨by omega, by omega⟩) (by omega)
theorem big39_of {z : Int} {i : Nat} (h : B1000 z i) (hi : i ≤ 13) : big39 z := ⟨h.1, Int.lt_of_lt_of_le h.2 (p1000_le hi)⟩
theorem small_bits {z : Int} (h0 : 0 ≤ z) (h : z ≤ 1000) : z.natAbs < 2 ^ 2000 := big_up (n := 10) (by show z.natAbs < 1024; omega) (by omega)
theorem big40.neg {z : Int} (h : big40 z) : big40 (-z) := by
  obtain ⟨h1, h2⟩ := h
  exact ⟨by omega, by omega⟩
theorem big40_0 : big40 0 := ⟨by decide, by decide⟩
theorem int_vals {x g : Int} (hx : 0 ≤ x ∧ x < 1000) (hg : big39 g) : ∀ z ∈ ([0, 1, x, 12 * (1 + x % 20), g, g * 10 + 7, 10 ^ Int.toNat 40 - 1 - g, x % 4] : List Int), big40 z := by
  obtain ⟨g1, g2⟩ := hg
  have e : (10 : Int) ^ Int.toNat 40 = 10000000000000000000000000000000000000000 := by decide
  have e2 : (10 : Int) ^ 40 = 10000000000000000000000000000000000000000 := by decide
  intro z hz
  unfold big40
  rw [e2]
  rw [e] at hz
  simp only [List.mem_cons, List.not_mem_nil, or_false] at hz
  omega
def sp_L_integer (K : PySem.W.Frag) : Sp := fun vs H Q _ => ∃ (a : Addr) (ns : List Int) (k : Int), vs = [.ref a, .int k] ∧ H a = some (.lst (ns.map V.int)) ∧ (∀ x ∈ ns, 0 ≤ x ∧ x < 1000) ∧ 0 ≤ k ∧ k + 14 ≤ ns.length ∧ ∀ z H', Same H H' → big40 z → Q (.int z) H'
theorem ok_L_integer (T : Txt K mg) : FnOk P w K mg base CX0 1 T.a_L_integer T.d_L_integer ["_law_numbers_here", "_law_k"] (sp_L_integer K) := by
  refine T.F_L_integer.ok sc_L_integer (fun vs H Q E h => ?_) (fun cdv A outer s H vs Q E hr h => ?_)
  · obtain ⟨_, _, _, rfl, _⟩ := h
    rfl
  · obtain ⟨a, ns, k, rfl, ha, hb, h0, hk, q⟩ := h
    refine ⟨_, (pss_cons (ps_set (i := 2) sc_L_integer.nd rfl (Or.inl rfl) pe_int)
      (pss_cons (ps_for PassesOwn.never rfl (k_seqS (K := K) rfl (pe_slice (k_slG (K := K) rfl) (pv 0) (po_some (pv 1)) (po_some (pe_op (k_addG (K := K) rfl) (pv 1) pe_int)))) (pg_name (i := 3) sc_L_integer.nd rfl (Or.inl rfl))
      (pss_one (ps_set (i := 2) sc_L_integer.nd rfl (Or.inl rfl) (pe_op (k_addG (K := K) rfl) (pe_op op_mulX (pv 2) pe_int) (pv 3)))))
      (pss_cons (ps_set (i := 4) sc_L_integer.nd rfl (Or.inl rfl) (pe_op op_mod (pe_callTy cr_int1 (by rfl) T.z_int (by decide +kernel) (pa_cons (pe_ix (k_ix (K := K) rfl) (pv 0) (pe_op (k_addG (K := K) rfl) (pv 1) pe_int) (fun _ _ => rfl)) pa_nil)) pe_int))
      (pss_cons (ps_set (i := 5) sc_L_integer.nd rfl (Or.inl rfl) (pe_lst (pa_cons pe_int (pa_cons pe_int (pa_cons (pe_ix (k_ix (K := K) rfl) (pv 0) (pv 1) (fun _ _ => rfl)) (pa_cons (pe_op op_mul pe_int (pe_op (k_addG (K := K) rfl) pe_int (pe_op op_mod (pe_callTy cr_int1 (by rfl) T.z_int (by decide +kernel) (pa_cons (pe_ix (k_ix (K := K) rfl) (pv 0) (pv 1) (fun _ _ => rfl)) pa_nil)) pe_int))) (pa_cons (pv 2) (pa_cons (pe_op (k_addG (K := K) rfl) (pe_op op_mulX (pv 2) pe_int) pe_int) (pa_cons (pe_op op_sub (pe_op op_sub (pe_op op_pow pe_int pe_int) pe_int) (pv 2)) pa_nil)))))))))
      (pss_cons (ps_set (i := 6) sc_L_integer.nd rfl (Or.inl rfl) (pe_ix (k_ix (K := K) rfl) (pe_op (k_addG (K := K) rfl) (pv 5) (pe_lst (pa_cons (pe_op op_mod (pe_callTy cr_int1 (by rfl) T.z_int (by decide +kernel) (pa_cons (pe_ix (k_ix (K := K) rfl) (pv 0) (pv 1) (fun _ _ => rfl)) pa_nil)) pe_int) pa_nil))) (pv 4) (fun _ _ => rfl)))
      (Evl.pss_cut (ps_if (pt_cmpR (k_eqG (K := K) rfl hr.units) (pe_op op_mod (pe_callTy cr_int1 (by rfl) T.z_int (by decide +kernel) (pa_cons (pe_op op_fdiv (pe_ix (k_ix (K := K) rfl) (pv 0) (pe_op (k_addG (K := K) rfl) (pv 1) pe_int) (fun _ _ => rfl)) pe_int) pa_nil)) pe_int) pe_int (nomark _)) (pss_one (ps_set (i := 6) sc_L_integer.nd rfl (Or.inl rfl) (pe_un un_neg (pv 6)))) pss_nil)
      (pss_one (ps_ret (pv 6))))))))), ?_⟩
    refine go_start (σ' := [some (.ref a), some (.int k), none, none, none, none, none]) rfl ?_
    try dsimp only [cxOf, Cx.nox, Cx.wish]
    walk_at "go"
    refine w_slC (Sq.lst ha) (cutV_ints (by omega) (by omega) (by omega)) fun p1 hp1 => ?_
    have s1 := Same.new (o := .lst (((ns.drop k.toNat).take ((k + 13).toNat - k.toNat)).map V.int)) hp1
    have e1 : (upd H p1 (.lst (((ns.drop k.toNat).take ((k + 13).toNat - k.toNat)).map V.int))) p1 = some (.lst (((ns.drop k.toNat).take ((k + 13).toNat - k.toNat)).map V.int)) := upd_same
    generalize upd H p1 (.lst (((ns.drop k.toNat).take ((k + 13).toNat - k.toNat)).map V.int)) = H1 at s1 e1 ⊢
    have hml : ((ns.drop k.toNat).take ((k + 13).toNat - k.toNat)).length = 13 := by rw [List.length_take, List.length_drop]; omega
    have hmb : ∀ x ∈ (ns.drop k.toNat).take ((k + 13).toNat - k.toNat), 0 ≤ x ∧ x < 1000 := fun x hx => hb x (List.mem_of_mem_drop (List.mem_of_mem_take hx))
    generalize (ns.drop k.toNat).take ((k + 13).toNat - k.toNat) = ms at e1 hml hmb
    have ha1 := s1 _ _ ha
    walk_at "go"
    refine l_seq (b := true) (ms.map V.int) (fun i σ H' => ∃ (g : Int) (y3 : Option V), σ = [some (.ref a), some (.int k), some (.int g), y3, none, none, none] ∧ H' = H1 ∧ B1000 g i) (Sq.lst e1) ⟨0, none, rfl, rfl, by omega, (by decide : (0 : Int) < p1000 0)⟩ (fun i σ H' _ ⟨_, _, _, e, _⟩ => by rw [e]; exact Sq.lst e1) ?_ ?_
    · rintro i x σ H' hi hx ⟨g, y3, rfl, rfl, hg1⟩
      obtain ⟨rfl, hi1⟩ := vec_at hx
      have hm := hmb _ (nth_mem (ns := ms) (i := ((i : Nat) : Int)) (by omega) (by omega))
      have hc : CMulX g 1000 := mulW (big39_bits (big39_of hg1 (by omega))) (small_bits (by omega) (by omega))
      walk_at "go"
      exact ⟨g * 1000 + nth ms (i : Nat), _, rfl, rfl, hg1.step hm.1 hm.2⟩
    · rintro σ H' ⟨g, y3, rfl, rfl, hg1⟩
      rw [List.length_map, hml] at hg1
      have hg2 := big39_of hg1 (Nat.le_refl _)
      clear hg1
      have m13 := hb _ (nth_mem (ns := ns) (i := k + 13) (by omega) (by omega))
      have mk := hb _ (nth_mem (ns := ns) (i := k) (by omega) (by omega))
      have hc : CMulX g 10 := mulW (big39_bits hg2) (small_bits (by omega) (by omega))
      walk_at "go"
      refine ⟨by show 7 ≤ sizeLine; decide, fun p2 hp2 => ?_⟩
      walk_at "go"
      refine ⟨by show 1 ≤ sizeLine; decide, fun p3 hp3 => ?_⟩
      walk_at "go"
      refine w_catLL (Same.new hp3 _ _ upd_same) upd_same (by show 7 + 1 ≤ sizeLine; decide) fun p4 hp4 => ?_
      have s4 := ((Same.new (o := .lst [V.int 0, V.int 1, V.int (nth ns k), V.int (12 * (1 + nth ns k % 20)), V.int g, V.int (g * 10 + 7), V.int (10 ^ Int.toNat 40 - 1 - g)]) hp2).trans (Same.new (o := .lst [V.int (nth ns k % 4)]) hp3)).trans (Same.new (o := .lst (([0, 1, nth ns k, 12 * (1 + nth ns k % 20), g, g * 10 + 7, 10 ^ Int.toNat 40 - 1 - g, nth ns k % 4] : List Int).map V.int)) hp4)
      walk_at "go"
      have hall : ∀ x ∈ ([0, 1, nth ns k, 12 * (1 + nth ns k % 20), g, g * 10 + 7, 10 ^ Int.toNat 40 - 1 - g, nth ns k % 4] : List Int), big40 x := int_vals mk hg2
      refine w_ixI (b := true) (ns := [0, 1, nth ns k, 12 * (1 + nth ns k % 20), g, g * 10 + 7, 10 ^ Int.toNat 40 - 1 - g, nth ns k % 4]) (Sq.lst upd_same) (by omega) (by show _ < (8 : Int); omega) ?_
      have hz := hall _ (nth_mem (i := nth ns (k + 13) % 8) (by omega) (by show _ < (8 : Int); omega))
      generalize nth ([0, 1, nth ns k, 12 * (1 + nth ns k % 20), g, g * 10 + 7, 10 ^ Int.toNat 40 - 1 - g, nth ns k % 4] : List Int) (nth ns (k + 13) % 8) = z at hz ⊢
      generalize eH4 : upd _ p4 _ = H4
      have s4 : Same H' H4 := by rw [← eH4]; exact s4
      clear hall eH4
      have ha4 := s4 _ _ ha1
      walk_at "go"
      refine w_cut (fun σ H' => ∃ (z : Int) (y2 y3 y4 y5 : Option V), σ = [some (.ref a), some (.int k), y2, y3, y4, y5, some (.int z)] ∧ H' = H4 ∧ big40 z) ?_ ?_
      · walk_at "go"
        refine w_iteD (fun h => ?_) (fun h => ?_)
        · walk_at "go"
          exact ⟨_, _, _, _, _, rfl, rfl, hz.neg⟩
        · walk_at "go"
          exact ⟨_, _, _, _, _, rfl, rfl, hz⟩
      · rintro σ H5 ⟨z, y2, y3, y4, y5, rfl, rfl, hz⟩
        walk_at "go"
        exact q _ _ (s1.trans s4) hz
def sp_L_fraction (K : PySem.W.Frag) : Sp := fun vs H Q _ => ∃ (a : Addr) (ns : List Int) (k : Int), vs = [.ref a, .int k] ∧ H a = some (.lst (ns.map V.int)) ∧ (∀ x ∈ ns, 0 ≤ x ∧ x < 1000) ∧ 0 ≤ k ∧ k + 28 ≤ ns.length ∧ ∀ v (q : Int × Int) H', Same H H' → big40 q.1 → big40 q.2 → q.2 ≠ 0 → RRaw H' v q → Q v H'
theorem ok_L_fraction (T : Txt K mg) : FnOk P w K mg base CX0 2 T.a_L_fraction T.d_L_fraction ["_law_numbers_here", "_law_k"] (sp_L_fraction K) := by
  refine T.F_L_fraction.ok sc_L_fraction (fun vs H Q E h => ?_) (fun cdv A outer s H vs Q E hr h => ?_)
  · obtain ⟨_, _, _, rfl, _⟩ := h
    rfl
  · obtain ⟨a, ns, k, rfl, ha, hb, h0, hk, q⟩ := h
    refine ⟨_, (pss_cons (ps_set (i := 2) sc_L_fraction.nd rfl (Or.inl rfl) (pe_call (ok_L_integer T) (hr.mono (by decide)) (by rfl) T.g_L_integer T.F_L_integer.kp T.b_L_integer .nil pass0 (pa_cons (pv 0) (pa_cons (pe_op (k_addG (K := K) rfl) (pv 1) pe_int) pa_nil))))
      (Evl.pss_cut (ps_if (pt_cmpR (k_eqG (K := K) rfl hr.units) (pv 2) pe_int (nomark _)) (pss_one (ps_set (i := 2) sc_L_fraction.nd rfl (Or.inl rfl) pe_int)) pss_nil)
      (pss_one (ps_ret (pe_tup (pa_cons (pe_call (ok_L_integer T) (hr.mono (by decide)) (by rfl) T.g_L_integer T.F_L_integer.kp T.b_L_integer .nil pass0 (pa_cons (pv 0) (pa_cons (pv 1) pa_nil))) (pa_cons (pv 2) pa_nil))))))), ?_⟩
    refine go_start (σ' := [some (.ref a), some (.int k), none]) rfl ?_
    try dsimp only [cxOf, Cx.nox, Cx.wish]
    walk_at "go"
    refine ⟨a, ns, k + 14, rfl, ha, hb, by omega, by omega, fun z H1 s1 hz => ?_⟩
    have ha1 := s1 _ _ ha
    walk_at "go"
    refine w_cut (fun σ H' => ∃ (z : Int), σ = [some (.ref a), some (.int k), some (.int z)] ∧ H' = H1 ∧ big40 z ∧ z ≠ 0) ?_ ?_
    · walk_at "go"
      refine w_iteD (fun h => ?_) (fun h => ?_)
      · walk_at "go"
        exact ⟨1, rfl, rfl, ⟨by decide, by decide⟩, by decide⟩
      · walk_at "go"
        exact ⟨z, rfl, rfl, hz, h⟩
    · rintro σ H2 ⟨z, rfl, rfl, hz, hz0⟩
      walk_at "go"
      refine ⟨a, ns, k, rfl, ha1, hb, by omega, by omega, fun y H3 s3 hy => ?_⟩
      walk_at "go"
      refine ⟨by show 2 ≤ sizeLine; decide, fun p hp => ?_⟩
      exact q _ (y, z) _ ((s1.trans s3).trans (Same.new hp)) hy hz hz0 ⟨p, rfl, upd_same⟩
def sp_L_refuses : Sp := fun vs H Q _ => ∃ a : Int, vs = [.int a] ∧ ∀ H', Same H H' → Q (.bl true) H'
theorem ok_L_refuses (T : Txt K mg) : FnOk P w K mg base CX0 5 T.a_L_refuses T.d_L_refuses ["_law_over"] sp_L_refuses := by
  refine T.F_L_refuses.ok sc_L_refuses (fun vs H Q E h => ?_) (fun cdv A outer s H vs Q E hr h => ?_)
  · obtain ⟨_, rfl, _⟩ := h
    rfl
  · obtain ⟨a, rfl, q⟩ := h
    refine ⟨_, (pss_cons (ps_set (i := 1) sc_L_refuses.nd rfl (Or.inl rfl) (pe_lst pa_nil))
      (pss_cons (ps_try_as (i := 2) rfl rfl sc_L_refuses.nd rfl rfl ⟨rfl, by decide, .inl T.gc_ServeError⟩ takes0 (fun W pn xe tk _ => (pss_one (ps_expr (pe_makeT T.M_Share (okX_Share___init__ T) (hr.mono (by decide)) rfl T.gc_Share T.b_Share___init__ .nil (fun σ => passAt tk σ) (pa_cons (pv 0) (pa_cons pe_int pa_nil))))))
      (fun a oe cls d pn hz hf => (pss_cons (ps_if (k_tru (K := K) rfl (pe_callB (call_isX hz hf) (by rfl) T.z_isinstance (by decide +kernel) (pa_cons (pv 2) (pa_cons (pe_glob (v := .ref T.c_InvalidNumber) (by rfl) T.gc_InvalidNumber rfl) pa_nil))) (by intro _; rfl)) (pss_one (ps_expr (k_bm (K := K) rfl PySem.F.plainAttrs_list PySem.F.slot_list_append PySem.F.type_list_append mt_append (pv 1) (pa_cons (pe_callB SkE.call_repr_int (by rfl) T.z_repr (by decide +kernel) (pa_cons (pe_xf T.xf_InvalidNumber T.nf_InvalidNumber hz hf (pv 2) rfl) pa_nil)) pa_nil)))) pss_nil)
      (pss_cons (ps_if (k_tru (K := K) rfl (pe_callB (call_isX hz hf) (by rfl) T.z_isinstance (by decide +kernel) (pa_cons (pv 2) (pa_cons (pe_tup (pa_cons (pe_glob (v := .ref T.c_InvalidLetter) (by rfl) T.gc_InvalidLetter rfl) (pa_cons (pe_glob (v := .ref T.c_NoHouse) (by rfl) T.gc_NoHouse rfl) (pa_cons (pe_glob (v := .ref T.c_NoRequest) (by rfl) T.gc_NoRequest rfl) (pa_cons (pe_glob (v := .ref T.c_NoRoom) (by rfl) T.gc_NoRoom rfl) (pa_cons (pe_glob (v := .ref T.c_NotAlone) (by rfl) T.gc_NotAlone rfl) (pa_cons (pe_glob (v := .ref T.c_NotHeld) (by rfl) T.gc_NotHeld rfl) (pa_cons (pe_glob (v := .ref T.c_TooLarge) (by rfl) T.gc_TooLarge rfl) pa_nil)))))))) pa_nil))) (by intro _; rfl)) (pss_one (ps_expr (k_bm (K := K) rfl PySem.F.plainAttrs_list PySem.F.slot_list_append PySem.F.type_list_append mt_append (pv 1) (pa_cons pe_str pa_nil)))) pss_nil)
      (pss_one (ps_if (pt_not (k_tru (K := K) rfl (pe_callB (call_isX hz hf) (by rfl) T.z_isinstance (by decide +kernel) (pa_cons (pv 2) (pa_cons (pe_bltn (v := .ty "ValueError") (by rfl) T.z_ValueError (by decide +kernel) rfl) pa_nil))) (by intro _; rfl))) (pss_one (ps_expr (k_bm (K := K) rfl PySem.F.plainAttrs_list PySem.F.slot_list_append PySem.F.type_list_append mt_append (pv 1) (pa_cons pe_str pa_nil)))) pss_nil))))))
      (pss_one (ps_ret (pe_cmpR (k_eqG (K := K) rfl hr.units) (pv 1) (pe_lst (pa_cons pe_str pa_nil)) (nomark _)))))), ?_⟩
    refine go_start (σ' := [some (.int a), none, none]) rfl ?_
    try dsimp only [cxOf, Cx.nox, Cx.wish]
    walk_at "go"
    refine ⟨Nat.zero_le _, fun D hD => ?_⟩
    have s1 := Same.new (o := .lst []) hD
    have e1 : (upd H D (.lst [])) D = some (.lst []) := upd_same
    generalize upd H D (.lst []) = H1 at s1 e1 ⊢
    walk_at "go"
    refine w_makeT ?_
    walk_at "go"
    intro x dx hx hdx hne
    refine ⟨x, dx, a, rfl, upd_same, fun d hd => ?_⟩
    have s2 : Same H1 (upd (upd H1 dx (.own x)) x (.ins T.c_Share dx [])) := (Same.new hdx).trans (Same.new (by rw [upd_ne (Ne.symm hne)]; exact hx))
    have s3 := s2.trans (Same.new (o := .xd [("number", .int 0)]) hd)
    have e3 := s3 _ _ e1
    have ed : (upd (upd (upd H1 dx (.own x)) x (.ins T.c_Share dx [])) d (.xd [("number", .int 0)])) d = some (.xd [("number", .int 0)]) := upd_same
    generalize upd (upd (upd H1 dx (.own x)) x (.ins T.c_Share dx [])) d (.xd [("number", .int 0)]) = H3 at s3 e3 ed ⊢
    have s13 := s1.trans s3
    have hnD : D ≠ d := fun e => by rw [e, ed] at e3; cases e3
    clear s1 s2 s3 e1 hd
    refine ⟨true, exm_sub T.er_ServeError T.sub_InvalidNumber_ServeError, fun _ ea hea => ?_, fun h => nomatch h⟩
    walk_at "go"
    refine w_isX ed T.ec_InvalidNumber T.er_InvalidNumber T.sub_InvalidNumber_InvalidNumber T.sub_InvalidNumber_InvalidNumber ?_
    walk_at "go"
    refine w_xfV rfl ed rfl ?_
    refine ⟨0, rfl, by decide, ?_⟩
    walk_at "go"
    refine w_append e3 (by decide) ?_
    have ed4 : (upd H3 D (.lst ([] ++ [V.str (Str.ofString (toString (0 : Int)))]))) d = some (.xd [("number", .int 0)]) := by rw [upd_ne (Ne.symm hnD)]; exact ed
    have e4 : (upd H3 D (.lst ([] ++ [V.str (Str.ofString (toString (0 : Int)))]))) D = some (.lst [V.str (Str.ofString (toString (0 : Int)))]) := upd_same
    have s4 : Same H (upd H3 D (.lst ([] ++ [V.str (Str.ofString (toString (0 : Int)))]))) := s13.mut hD
    generalize upd H3 D (.lst ([] ++ [V.str (Str.ofString (toString (0 : Int)))])) = H4 at ed4 e4 s4 ⊢
    walk_at "go"
    refine ⟨by show 7 ≤ sizeLine; decide, fun tp htp => ?_⟩
    have s5 := Same.new (o := .tup [.ref T.c_InvalidLetter, .ref T.c_NoHouse, .ref T.c_NoRequest, .ref T.c_NoRoom, .ref T.c_NotAlone, .ref T.c_NotHeld, .ref T.c_TooLarge]) htp
    walk_at "go"
    refine w_isXT (s5 _ _ ed4) T.ec_InvalidNumber upd_same (.cons (.own _) (.cons (.own _) (.cons (.own _) (.cons (.own _) (.cons (.own _) (.cons (.own _) (.cons (.own _) .nil))))))) (kit_cons (kit_sub T.er_InvalidLetter T.sub_InvalidNumber_InvalidNumber T.sub_InvalidNumber_InvalidLetter) (kit_cons (kit_sub T.er_NoHouse T.sub_InvalidNumber_InvalidNumber T.sub_InvalidNumber_NoHouse) (kit_cons (kit_sub T.er_NoRequest T.sub_InvalidNumber_InvalidNumber T.sub_InvalidNumber_NoRequest) (kit_cons (kit_sub T.er_NoRoom T.sub_InvalidNumber_InvalidNumber T.sub_InvalidNumber_NoRoom) (kit_cons (kit_sub T.er_NotAlone T.sub_InvalidNumber_InvalidNumber T.sub_InvalidNumber_NotAlone) (kit_cons (kit_sub T.er_NotHeld T.sub_InvalidNumber_InvalidNumber T.sub_InvalidNumber_NotHeld) (kit_cons (kit_sub T.er_TooLarge T.sub_InvalidNumber_InvalidNumber T.sub_InvalidNumber_TooLarge) kit_nil))))))) ?_
    generalize upd H4 tp (.tup [.ref T.c_InvalidLetter, .ref T.c_NoHouse, .ref T.c_NoRequest, .ref T.c_NoRoom, .ref T.c_NotAlone, .ref T.c_NotHeld, .ref T.c_TooLarge]) = H5 at s5 ⊢
    walk_at "go"
    refine w_isXV (s5 _ _ ed4) T.ec_InvalidNumber T.sv_InvalidNumber ?_
    walk_at "go"
    refine ⟨by show 1 ≤ sizeLine; decide, fun p6 hp6 => ?_⟩
    have s6 := Same.new (o := .lst [V.str "0"]) hp6
    refine w_eqD (d := .list [.str (Str.ofString (toString (0 : Int)))]) (e := .list [.str "0"]) (.lst (Sq.lst (s6 _ _ (s5 _ _ e4))) (.cons (.str _) .nil)) (.lst (Sq.lst upd_same) (.cons (.str _) .nil)) (by decide +kernel) (by decide +kernel) ?_
    have ee : PyData.eqv (.list [.str (Str.ofString (toString (0 : Int)))]) (.list [.str "0"]) = true := by decide +kernel
    rw [ee]
    exact q _ ((s4.trans s5).trans s6)

/-! ### _law_pair -/
theorem RB.add {p q : Rat} {n m : Nat} (h1 : RB n p) (h2 : RB m q) : RB (n + m + 1) (p + q) := by
  rw [add_parts]
  have d1 := Nat.pos_of_ne_zero p.den_nz
  have d2 := Nat.pos_of_ne_zero q.den_nz
  have e1 : (p.den : Int).natAbs < 2 ^ n := by rw [Int.natAbs_natCast]; exact h1.2
  have e2 : (q.den : Int).natAbs < 2 ^ m := by rw [Int.natAbs_natCast]; exact h2.2
  refine RB.div (by have := Nat.mul_pos d1 d2; rw [← Int.natCast_mul]; omega) (add_big (mul_big h1.1 e2) ?_) (big_up (mul_big e1 e2) (by omega))
  have := mul_big h2.1 e1
  rw [Nat.add_comm] at this
  exact this
theorem neg_num (q : Rat) : (-q).num = -q.num := rfl
theorem neg_den (q : Rat) : (-q).den = q.den := rfl
theorem RB.neg {q : Rat} {n : Nat} (h : RB n q) : RB n (-q) := ⟨by rw [neg_num, Int.natAbs_neg]; exact h.1, h.2⟩
theorem w_binR {C : Addr} {sp : Sp} {H : Hp} {x y : V} {p q r : Rat} {Q : VK} (hx : RShare C H x p) (hy : RShare C H y q) (h : ∀ (Q : VK) (E : XK), (∀ v' H', Same H H' → RShare C H' v' r → Q v' H') → sp [x, y] H Q E) (k : ∀ v' H', Same H H' → RShare C H' v' r → Q v' H') : rBinO C sp x y H Q := by
  obtain ⟨a, dx, rfl, ha⟩ := hx
  obtain ⟨b, dy, rfl, hb⟩ := hy
  exact ⟨a, dx, _, b, dy, _, rfl, rfl, ha, hb, h _ _ fun v H' s r => ⟨by obtain ⟨p, _, e, _⟩ := r; exact ⟨p, e⟩, k v H' s r⟩⟩
theorem w_eqR {K : PySem.W.Frag} {C : Addr} {H : Hp} {x y : V} {p q : Rat} {Q : VK} (o : OwnC K C) (cl : Cls K C) (hx : RShare C H x p) (hy : RShare C H y q) (k : ∀ H', Same H H' → Q (.bl (decide (p = q))) H') : rEqO K C (sp_Share___eq__ K C) x y H Q := by
  obtain ⟨a, dx, rfl, ha⟩ := id hx
  obtain ⟨b, dy, rfl, hb⟩ := id hy
  exact ⟨a, dx, _, _, rfl, ha, o.tyx cl hb, first_self, _, _, p, rfl, hx, .inl ⟨q, hy, fun H' s => ⟨_, rfl, k H' s⟩⟩⟩
theorem w_neR {K : PySem.W.Frag} {C : Addr} {H : Hp} {x y : V} {p q : Rat} {Q : VK} (o : OwnC K C) (cl : Cls K C) (hx : RShare C H x p) (hy : RShare C H y q) (k : ∀ H', Same H H' → Q (.bl (!decide (p = q))) H') : rNeO K C (sp_Share___eq__ K C) x y H Q := by
  obtain ⟨a, dx, rfl, ha⟩ := id hx
  obtain ⟨b, dy, rfl, hb⟩ := id hy
  exact ⟨a, dx, _, _, rfl, ha, o.tyx cl hb, first_self, _, _, p, rfl, hx, .inl ⟨q, hy, fun H' s => ⟨_, rfl, k H' s⟩⟩⟩
theorem w_eqRN {K : PySem.W.Frag} {C : Addr} {H : Hp} {x y : V} {p : Rat} {n : String} {Q : VK} (hx : RShare C H x p) (ht : TyX K H y (.type n)) (hs : PySem.W.subIn K (.type n) (.ref C) = some false) (k : Q (.bl false) H) : rEqO K C (sp_Share___eq__ K C) x y H Q := by
  obtain ⟨a, dx, rfl, ha⟩ := id hx
  exact ⟨a, dx, _, _, rfl, ha, ht, first_no hs, _, _, p, rfl, hx, .inr ⟨n, ht, hs, _, rfl, k⟩⟩
theorem w_neRN {K : PySem.W.Frag} {C : Addr} {H : Hp} {x y : V} {p : Rat} {n : String} {Q : VK} (hx : RShare C H x p) (ht : TyX K H y (.type n)) (hs : PySem.W.subIn K (.type n) (.ref C) = some false) (k : Q (.bl true) H) : rNeO K C (sp_Share___eq__ K C) x y H Q := by
  obtain ⟨a, dx, rfl, ha⟩ := id hx
  exact ⟨a, dx, _, _, rfl, ha, ht, first_no hs, _, _, p, rfl, hx, .inr ⟨n, ht, hs, _, rfl, k⟩⟩
theorem w_eqF {K : PySem.W.Frag} {H : Hp} {x y : V} {p q : Rat} {Q : VK} (hx : RFrac K H x p) (hy : RFrac K H y q) (k : Q (.bl (decide (p = q))) H) : rEqG K x y H Q := by
  obtain ⟨a, rfl, ha⟩ := hx
  obtain ⟨b, rfl, hb⟩ := hy
  refine w_eqD (dp_frac ha) (dp_frac hb) (shaped_frac _ _) (shaped_frac _ _) ?_
  rw [eqv_frac, same_rat]
  exact k
theorem w_neF {K : PySem.W.Frag} {H : Hp} {x y : V} {p q : Rat} {Q : VK} (hx : RFrac K H x p) (hy : RFrac K H y q) (k : Q (.bl (!decide (p = q))) H) : rNeG K x y H Q := by
  obtain ⟨a, rfl, ha⟩ := hx
  obtain ⟨b, rfl, hb⟩ := hy
  refine w_neD (dp_frac ha) (dp_frac hb) (shaped_frac _ _) (shaped_frac _ _) ?_
  rw [eqv_frac, same_rat]
  exact k
theorem Sm.bl {K : PySem.W.Frag} {H : Hp} {n : Nat} {b : Bool} : Sm K H n (.bl b) (.bl b) := by
  cases n
  · exact ⟨rfl, .inr (.inl ⟨b, rfl⟩)⟩
  · exact .inl ⟨rfl, .inr (.inl ⟨b, rfl⟩)⟩
def sp_L_pair (K : PySem.W.Frag) (C : Addr) : Sp := fun vs H Q _ => ∃ (x dx y dy : V) (p q : Rat), vs = [x, dx, y, dy] ∧ RShare C H x p ∧ RFrac K H dx p ∧ RShare C H y q ∧ RFrac K H dy q ∧ RB 133 p ∧ RB 133 q ∧ ∀ H', Same H H' → Q (.bl true) H'
theorem ok_L_pair (T : Txt K mg) : FnOk P w K mg base CX0 6 T.a_L_pair T.d_L_pair ["_law_share", "_law_due", "_law_second", "_law_other"] (sp_L_pair K T.c_Share) := by
  refine T.F_L_pair.ok sc_L_pair (fun vs H Q E h => ?_) (fun cdv A outer s H vs Q E hr h => ?_)
  · obtain ⟨_, _, _, _, _, _, rfl, _⟩ := h
    rfl
  · obtain ⟨x, vd, y, ve, p, q, rfl, hx, hd, hy, he, bp, bq, k⟩ := h
    have cS := T.C_Share
    have n0 := T.n_Share_over
    have n1 := T.n_Share_under
    refine ⟨_, (pss_cons (ps_set (i := 4) sc_L_pair.nd rfl (Or.inl rfl) (pe_tup (pa_cons (pe_un un_neg (pe_ix (k_ix (K := K) rfl) (pv 3) pe_int (fun _ _ => rfl))) (pa_cons (pe_ix (k_ix (K := K) rfl) (pv 3) pe_int (fun _ _ => rfl)) pa_nil))))
      (pss_cons (ps_if (pt_not (k_tru (K := K) rfl (pe_call (ok_L_is_share T) (hr.mono (by decide)) (by rfl) T.g_L_is_share T.F_L_is_share.kp T.b_L_is_share .nil pass0 (pa_cons (pe_op (op_binO T.bo_Share___add__ (ok_Share___add__ T) (hr.mono (by decide)) T.b_Share___add__ pass0) (pv 0) (pv 2)) (pa_cons (pe_call (ok_L_plus T) (hr.mono (by decide)) (by rfl) T.g_L_plus T.F_L_plus.kp T.b_L_plus .nil pass0 (pa_cons (pv 1) (pa_cons (pv 3) pa_nil))) pa_nil))) (by intro _; rfl))) (pss_one (ps_ret pe_bl)) pss_nil)
      (pss_cons (ps_if (pt_not (k_tru (K := K) rfl (pe_call (ok_L_is_share T) (hr.mono (by decide)) (by rfl) T.g_L_is_share T.F_L_is_share.kp T.b_L_is_share .nil pass0 (pa_cons (pe_op (op_binO T.bo_Share___sub__ (ok_Share___sub__ T) (hr.mono (by decide)) T.b_Share___sub__ pass0) (pv 0) (pv 2)) (pa_cons (pe_call (ok_L_plus T) (hr.mono (by decide)) (by rfl) T.g_L_plus T.F_L_plus.kp T.b_L_plus .nil pass0 (pa_cons (pv 1) (pa_cons (pv 4) pa_nil))) pa_nil))) (by intro _; rfl))) (pss_one (ps_ret pe_bl)) pss_nil)
      (pss_cons (ps_if (pt_not (k_tru (K := K) rfl (pe_call (ok_L_is_share T) (hr.mono (by decide)) (by rfl) T.g_L_is_share T.F_L_is_share.kp T.b_L_is_share .nil pass0 (pa_cons (pe_op (op_binO T.bo_Share___mul__ (ok_Share___mul__ T) (hr.mono (by decide)) T.b_Share___mul__ pass0) (pv 0) (pv 2)) (pa_cons (pe_call (ok_L_by T) (hr.mono (by decide)) (by rfl) T.g_L_by T.F_L_by.kp T.b_L_by .nil pass0 (pa_cons (pv 1) (pa_cons (pv 3) pa_nil))) pa_nil))) (by intro _; rfl))) (pss_one (ps_ret pe_bl)) pss_nil)
      (pss_cons (ps_if (PW.pt (pw_or (pt_not (k_tru (K := K) rfl (pe_call (ok_L_same_at T 3) (hr.mono (by decide)) (by rfl) T.g_L_same T.F_L_same.kp T.b_L_same .nil pass0 (pa_cons (pe_cmpR (op_eqO T.e_Share (ok_Share___eq__ T) (hr.mono (by decide)) T.b_Share___eq__ pass0) (pv 0) (pv 2) (nomark _)) (pa_cons (pe_cmpR (k_eqG (K := K) rfl hr.units) (pv 1) (pv 3) (nomark _)) pa_nil))) (by intro _; rfl))) (pw_or1 (pt_not (k_tru (K := K) rfl (pe_call (ok_L_same_at T 3) (hr.mono (by decide)) (by rfl) T.g_L_same T.F_L_same.kp T.b_L_same .nil pass0 (pa_cons (pe_cmpR (op_neO T.e_Share (ok_Share___eq__ T) (hr.mono (by decide)) T.b_Share___eq__ pass0) (pv 0) (pv 2) (nomark _)) (pa_cons (pe_cmpR (k_neG (K := K) rfl hr.units) (pv 1) (pv 3) (nomark _)) pa_nil))) (by intro _; rfl)))))) (pss_one (ps_ret pe_bl)) pss_nil)
      (pss_cons (ps_if (pt_not (k_tru (K := K) rfl (pe_call (ok_L_same_at T 3) (hr.mono (by decide)) (by rfl) T.g_L_same T.F_L_same.kp T.b_L_same .nil pass0 (pa_cons (pe_meth (pv 0) T.C_Share T.m_Share_is_below (ok_Share_is_below T) (hr.mono (by decide)) T.b_Share_is_below .nil pass0 (pa_cons (pv 2) pa_nil)) (pa_cons (pe_call (ok_L_is_below T) (hr.mono (by decide)) (by rfl) T.g_L_is_below T.F_L_is_below.kp T.b_L_is_below .nil pass0 (pa_cons (pv 1) (pa_cons (pv 3) pa_nil))) pa_nil))) (by intro _; rfl))) (pss_one (ps_ret pe_bl)) pss_nil)
      (Evl.pss_cut (ps_if (pt_cmpR op_lt (pe_callB (call_max4 rfl) (by rfl) T.z_max (by decide +kernel) (pa_cons (pe_callB cr_abs (by rfl) T.z_abs (by decide +kernel) (pa_cons (pe_ix (k_ix (K := K) rfl) (pv 1) pe_int (fun _ _ => rfl)) pa_nil)) (pa_cons (pe_ix (k_ix (K := K) rfl) (pv 1) pe_int (fun _ _ => rfl)) (pa_cons (pe_callB cr_abs (by rfl) T.z_abs (by decide +kernel) (pa_cons (pe_ix (k_ix (K := K) rfl) (pv 3) pe_int (fun _ _ => rfl)) pa_nil)) (pa_cons (pe_ix (k_ix (K := K) rfl) (pv 3) pe_int (fun _ _ => rfl)) pa_nil))))) (pe_op op_pow pe_int pe_int) (nomark _)) (pss_cons (ps_if (PW.pt (pw_or (pt_not (k_tru (K := K) rfl (pe_call (ok_L_is_share T) (hr.mono (by decide)) (by rfl) T.g_L_is_share T.F_L_is_share.kp T.b_L_is_share .nil pass0 (pa_cons (pe_op (op_binO T.bo_Share___sub__ (ok_Share___sub__ T) (hr.mono (by decide)) T.b_Share___sub__ pass0) (pe_op (op_binO T.bo_Share___add__ (ok_Share___add__ T) (hr.mono (by decide)) T.b_Share___add__ pass0) (pv 0) (pv 2)) (pv 2)) (pa_cons (pv 1) pa_nil))) (by intro _; rfl))) (pw_or1 (pt_cmpR (op_neO T.e_Share (ok_Share___eq__ T) (hr.mono (by decide)) T.b_Share___eq__ pass0) (pe_op (op_binO T.bo_Share___mul__ (ok_Share___mul__ T) (hr.mono (by decide)) T.b_Share___mul__ pass0) (pv 0) (pv 2)) (pe_op (op_binO T.bo_Share___mul__ (ok_Share___mul__ T) (hr.mono (by decide)) T.b_Share___mul__ pass0) (pv 2) (pv 0)) (nomark _))))) (pss_one (ps_ret pe_bl)) pss_nil)
      (pss_one (ps_if (pt_not (k_tru (K := K) rfl (pe_call (ok_L_same_at T 3) (hr.mono (by decide)) (by rfl) T.g_L_same T.F_L_same.kp T.b_L_same .nil pass0 (pa_cons (pe_meth (pe_op (op_binO T.bo_Share___mul__ (ok_Share___mul__ T) (hr.mono (by decide)) T.b_Share___mul__ pass0) (pv 0) (pv 2)) T.C_Share T.m_Share_is_below (ok_Share_is_below T) (hr.mono (by decide)) T.b_Share_is_below .nil pass0 (pa_cons (pv 0) pa_nil)) (pa_cons (pe_call (ok_L_is_below T) (hr.mono (by decide)) (by rfl) T.g_L_is_below T.F_L_is_below.kp T.b_L_is_below .nil pass0 (pa_cons (pe_call (ok_L_by T) (hr.mono (by decide)) (by rfl) T.g_L_by T.F_L_by.kp T.b_L_by .nil pass0 (pa_cons (pv 1) (pa_cons (pv 3) pa_nil))) (pa_cons (pv 1) pa_nil))) pa_nil))) (by intro _; rfl))) (pss_one (ps_ret pe_bl)) pss_nil))) pss_nil)
      (pss_cons (ps_set (i := 5) sc_L_pair.nd rfl (Or.inl rfl) (pv 1))
      (Evl.pss_cut (ps_if (k_tru (K := K) rfl (pe_call (ok_L_is_below T) (hr.mono (by decide)) (by rfl) T.g_L_is_below T.F_L_is_below.kp T.b_L_is_below .nil pass0 (pa_cons (pv 3) (pa_cons (pv 1) pa_nil))) (by intro _; rfl)) (pss_one (ps_set (i := 5) sc_L_pair.nd rfl (Or.inl rfl) (pv 3))) pss_nil)
      (pss_one (ps_ret (pe_call (ok_L_is_share T) (hr.mono (by decide)) (by rfl) T.g_L_is_share T.F_L_is_share.kp T.b_L_is_share .nil pass0 (pa_cons (pe_call (ok_lesser_of T) (hr.mono (by decide)) (by rfl) T.g_lesser_of T.F_lesser_of.kp T.b_lesser_of .nil pass0 (pa_cons (pv 0) (pa_cons (pv 2) pa_nil))) (pa_cons (pv 5) pa_nil)))))))))))))), ?_⟩
    refine go_start (σ' := [some x, some vd, some y, some ve, none, none]) rfl ?_
    try dsimp only [cxOf, Cx.nox, Cx.wish]
    obtain ⟨ad, rfl, had⟩ := id hd
    obtain ⟨ae, rfl, hae⟩ := id he
    walk_at "go"
    refine w_ix hae (atI_nat (j := 0) rfl) ?_
    walk_at "go"
    refine w_ix hae (atI_nat (j := 1) rfl) ?_
    walk_at "go"
    refine ⟨by show 2 ≤ sizeLine; decide, fun p1 hp1 => ?_⟩
    have s1 := Same.new (o := .tup [.int (-q.num), .int (q.den : Int)]) hp1
    have hm : RFrac K (upd H p1 (.tup [.int (-q.num), .int (q.den : Int)])) (.ref p1) (-q) := ⟨p1, rfl, Sq.tup upd_same⟩
    generalize upd H p1 (.tup [.int (-q.num), .int (q.den : Int)]) = H1 at s1 hm ⊢
    have hx := RShare.mono _ _ _ _ s1 hx
    have hy := RShare.mono _ _ _ _ s1 hy
    have hd := RFrac.mono _ _ _ _ s1 hd
    have he := RFrac.mono _ _ _ _ s1 he
    -- +
    walk_at "go"
    refine w_binR hx hy (fun Q E z => ⟨_, _, p, q, rfl, hx, hy, bp.mono (by omega), bq.mono (by omega), z⟩) fun v2 H2 s2 r2 => ?_
    walk_at "go"
    refine ⟨_, _, p, q, rfl, RFrac.mono _ _ _ _ s2 hd, RFrac.mono _ _ _ _ s2 he, bp.mono (by omega), bq.mono (by omega), fun v3 H3 s3 r3 => ?_⟩
    walk_at "go"
    refine ⟨_, _, _, rfl, RShare.mono _ _ _ _ s3 r2, r3, fun H4 s4 => ?_⟩
    have s14 := (s2.trans s3).trans s4
    clear s2 s3 s4 r2 r3
    have hx := RShare.mono _ _ _ _ s14 hx
    have hy := RShare.mono _ _ _ _ s14 hy
    have hd := RFrac.mono _ _ _ _ s14 hd
    have he := RFrac.mono _ _ _ _ s14 he
    have hm := RFrac.mono _ _ _ _ s14 hm
    have s1 := s1.trans s14
    clear s14
    -- -
    walk_at "go"
    refine w_binR hx hy (fun Q E z => ⟨_, _, p, q, rfl, hx, hy, bp.mono (by omega), bq.mono (by omega), z⟩) fun v2 H2 s2 r2 => ?_
    walk_at "go"
    refine ⟨_, _, p, -q, rfl, RFrac.mono _ _ _ _ s2 hd, RFrac.mono _ _ _ _ s2 hm, bp.mono (by omega), bq.neg.mono (by omega), fun v3 H3 s3 r3 => ?_⟩
    rw [← Rat.sub_eq_add_neg] at r3
    walk_at "go"
    refine ⟨_, _, _, rfl, RShare.mono _ _ _ _ s3 r2, r3, fun H5 s4 => ?_⟩
    have s14 := (s2.trans s3).trans s4
    clear s2 s3 s4 r2 r3 hm
    have hx := RShare.mono _ _ _ _ s14 hx
    have hy := RShare.mono _ _ _ _ s14 hy
    have hd := RFrac.mono _ _ _ _ s14 hd
    have he := RFrac.mono _ _ _ _ s14 he
    have s1 := s1.trans s14
    clear s14
    -- *
    walk_at "go"
    refine w_binR hx hy (fun Q E z => ⟨_, _, p, q, rfl, hx, hy, bp.mono (by omega), bq.mono (by omega), z⟩) fun v2 H2 s2 r2 => ?_
    walk_at "go"
    refine ⟨_, _, p, q, rfl, RFrac.mono _ _ _ _ s2 hd, RFrac.mono _ _ _ _ s2 he, bp.mono (by omega), bq.mono (by omega), fun v3 H3 s3 r3 => ?_⟩
    walk_at "go"
    refine ⟨_, _, _, rfl, RShare.mono _ _ _ _ s3 r2, r3, fun H6 s4 => ?_⟩
    have s14 := (s2.trans s3).trans s4
    clear s2 s3 s4 r2 r3
    have hx := RShare.mono _ _ _ _ s14 hx
    have hy := RShare.mono _ _ _ _ s14 hy
    have hd := RFrac.mono _ _ _ _ s14 hd
    have he := RFrac.mono _ _ _ _ s14 he
    have s1 := s1.trans s14
    clear s14
    -- ==, !=
    walk_at "go"
    refine w_eqR T.o_Share cS hx hy fun H7 s7 => ?_
    walk_at "go"
    refine w_eqF (RFrac.mono _ _ _ _ s7 hd) (RFrac.mono _ _ _ _ s7 he) ?_
    walk_at "go"
    refine ⟨_, _, rfl, Sm.bl, ?_⟩
    walk_at "go"
    refine w_neR T.o_Share cS (RShare.mono _ _ _ _ s7 hx) (RShare.mono _ _ _ _ s7 hy) fun H8 s8 => ?_
    have s78 := s7.trans s8
    walk_at "go"
    refine w_neF (RFrac.mono _ _ _ _ s78 hd) (RFrac.mono _ _ _ _ s78 he) ?_
    walk_at "go"
    refine ⟨_, _, rfl, Sm.bl, ?_⟩
    have hx := RShare.mono _ _ _ _ s78 hx
    have hy := RShare.mono _ _ _ _ s78 hy
    have hd := RFrac.mono _ _ _ _ s78 hd
    have he := RFrac.mono _ _ _ _ s78 he
    have s1 := s1.trans s78
    clear s78 s7 s8
    -- is_below
    obtain ⟨ax, dx, rfl, hx0⟩ := id hx
    walk_at "go"
    refine ⟨_, _, p, q, rfl, hx, hy, bp.mono (by omega), bq.mono (by omega), ?_⟩
    walk_at "go"
    refine ⟨_, _, p, q, rfl, hd, he, bp.mono (by omega), bq.mono (by omega), ?_⟩
    walk_at "go"
    refine ⟨_, _, rfl, Sm.bl, ?_⟩
    walk_at "go"
    have had8 : Sq false K H8 ad [.int p.num, .int (p.den : Int)] := by
      obtain ⟨a', e, h⟩ := hd
      cases e
      exact h
    have hae8 : Sq false K H8 ae [.int q.num, .int (q.den : Int)] := by
      obtain ⟨a', e, h⟩ := he
      cases e
      exact h
    refine w_cut (fun σ H' => σ = [some (.ref ax), some (.ref ad), some y, some (.ref ae), some (.ref p1), none] ∧ Same H8 H') ?_ ?_
    · walk_at "go"
      refine w_ix had8 (atI_nat (j := 0) rfl) ?_
      walk_at "go"
      refine w_ix had8 (atI_nat (j := 1) rfl) ?_
      walk_at "go"
      refine w_ix hae8 (atI_nat (j := 0) rfl) ?_
      walk_at "go"
      refine w_ix hae8 (atI_nat (j := 1) rfl) ?_
      walk_at "go"
      refine w_max4 fun m _ _ _ _ _ => ?_
      walk_at "go"
      refine w_iteD (fun _ => ?_) (fun _ => ?_)
      · walk_at "go"
        refine w_binR hx hy (fun Q E z => ⟨_, _, p, q, rfl, hx, hy, bp.mono (by omega), bq.mono (by omega), z⟩) fun v2 H2 s2 r2 => ?_
        walk_at "go"
        have hy2 := RShare.mono _ _ _ _ s2 hy
        refine w_binR r2 hy2 (fun Q E z => ⟨_, _, p + q, q, rfl, r2, hy2, (bp.add bq).mono (by omega), bq.mono (by omega), z⟩) fun v3 H3 s3 r3 => ?_
        rw [Rat.add_sub_cancel] at r3
        walk_at "go"
        refine ⟨_, _, p, rfl, r3, RFrac.mono _ _ _ _ (s2.trans s3) hd, fun H4 s4 => ?_⟩
        have s24 := (s2.trans s3).trans s4
        clear r2 hy2 r3 s2 s3 s4
        walk_at "go"
        have hx4 := RShare.mono _ _ _ _ s24 hx
        have hy4 := RShare.mono _ _ _ _ s24 hy
        refine w_binR hx4 hy4 (fun Q E z => ⟨_, _, p, q, rfl, hx4, hy4, bp.mono (by omega), bq.mono (by omega), z⟩) fun v5 H5 s5 r5 => ?_
        walk_at "go"
        have hx5 := RShare.mono _ _ _ _ s5 hx4
        have hy5 := RShare.mono _ _ _ _ s5 hy4
        refine w_binR hy5 hx5 (fun Q E z => ⟨_, _, q, p, rfl, hy5, hx5, bq.mono (by omega), bp.mono (by omega), z⟩) fun v6 H6 s6 r6 => ?_
        rw [Rat.mul_comm] at r6
        walk_at "go"
        refine w_neR T.o_Share cS (RShare.mono _ _ _ _ s6 r5) r6 fun H7 s7 => ?_
        rw [decide_eq_true rfl]
        have s27 := ((s24.trans s5).trans s6).trans s7
        clear hx4 hy4 hx5 hy5 r5 r6 s24 s5 s6 s7
        walk_at "go"
        have hx7 := RShare.mono _ _ _ _ s27 hx
        have hy7 := RShare.mono _ _ _ _ s27 hy
        refine w_binR hx7 hy7 (fun Q E z => ⟨_, _, p, q, rfl, hx7, hy7, bp.mono (by omega), bq.mono (by omega), z⟩) fun v9 H9 s9 r9 => ?_
        obtain ⟨a9, d9, rfl, h9⟩ := id r9
        have hx9 := RShare.mono _ _ _ _ s9 hx7
        walk_at "go"
        refine ⟨_, _, p * q, p, rfl, r9, hx9, (bp.mul bq).mono (by omega), bp.mono (by omega), ?_⟩
        walk_at "go"
        refine ⟨_, _, p, q, rfl, RFrac.mono _ _ _ _ (s27.trans s9) hd, RFrac.mono _ _ _ _ (s27.trans s9) he, bp.mono (by omega), bq.mono (by omega), fun v10 H10 s10 r10 => ?_⟩
        walk_at "go"
        refine ⟨_, _, p * q, p, rfl, r10, RFrac.mono _ _ _ _ ((s27.trans s9).trans s10) hd, (bp.mul bq).mono (by omega), bp.mono (by omega), ?_⟩
        walk_at "go"
        refine ⟨_, _, rfl, Sm.bl, ?_⟩
        walk_at "go"
        exact ⟨rfl, (s27.trans s9).trans s10⟩
      · walk_at "go"
        exact ⟨rfl, Same.refl _⟩
    · rintro σ H9 ⟨rfl, s9⟩
      have hx := RShare.mono _ _ _ _ s9 hx
      have hy := RShare.mono _ _ _ _ s9 hy
      have hd := RFrac.mono _ _ _ _ s9 hd
      have he := RFrac.mono _ _ _ _ s9 he
      walk_at "go"
      refine w_cut (fun σ H' => ∃ v, σ = [some (.ref ax), some (.ref ad), some y, some (.ref ae), some (.ref p1), some v] ∧ H' = H9 ∧ RFrac K H9 v (lesserR p q)) ?_ ?_
      · walk_at "go"
        refine ⟨_, _, q, p, rfl, he, hd, bq.mono (by omega), bp.mono (by omega), ?_⟩
        walk_at "go"
        refine w_iteB (fun hb => ?_) (fun hb => ?_)
        · walk_at "go"
          exact ⟨_, rfl, rfl, by rw [lesser_comm, if_pos hb]; exact he⟩
        · walk_at "go"
          exact ⟨_, rfl, rfl, by rw [lesser_comm, hb, if_neg Bool.false_ne_true]; exact hd⟩
      · rintro σ H' ⟨v, rfl, rfl, hv⟩
        walk_at "go"
        refine ⟨_, _, p, q, rfl, hx, hy, bp.mono (by omega), bq.mono (by omega), fun v11 r11 => ?_⟩
        walk_at "go"
        exact ⟨_, _, _, rfl, r11, hv, fun H' s' => k _ ((s1.trans s9).trans s')⟩

/-! ### the law -/
def RGood : Rep Unit := fun H v _ => ∃ q : Int × Int, big40 q.1 ∧ big40 q.2 ∧ q.2 ≠ 0 ∧ RRaw H v q
theorem RGood.mono : RMono RGood := fun _ _ _ _ s ⟨q, h1, h2, h3, h⟩ => ⟨q, h1, h2, h3, RRaw.mono _ _ _ _ s h⟩
theorem RGood.tup : RTup RGood := fun _ _ _ _ s ⟨q, h1, h2, h3, h⟩ => ⟨q, h1, h2, h3, RRaw.tup _ _ _ _ s h⟩
theorem RRaw.fr {H H' : Hp} {D : Addr} {xs : List V} {v : V} {q : Int × Int} (f : Fr D H H') (hD : H D = some (.lst xs)) (h : RRaw H v q) : RRaw H' v q := by
  obtain ⟨a, e, h⟩ := h
  exact ⟨a, e, f _ _ (fun z => by rw [z, hD] at h; cases h) h⟩
theorem RGood.fr {H H' : Hp} {D : Addr} {xs : List V} {v : V} {u : Unit} (f : Fr D H H') (hD : H D = some (.lst xs)) (h : RGood H v u) : RGood H' v u := by
  obtain ⟨q, h1, h2, h3, h⟩ := h
  exact ⟨q, h1, h2, h3, h.fr f hD⟩
theorem Fr.back {H H' : Hp} {D : Addr} (h0 : H D = none) (f : Fr D H H') : Same H H' := fun b u h => f b u (ne_of_none h h0) h
theorem big40_abs {x : Int} (h : (if x < 0 then -x else x) < 10 ^ Int.toNat 40) : big40 x := by
  have e : (10 : Int) ^ Int.toNat 40 = 10 ^ 40 := rfl
  rw [e] at h
  unfold big40
  split at h <;> omega
theorem RB.divN {a b : Int} {n : Nat} (hb : b ≠ 0) (h1 : a.natAbs < 2 ^ n) (h2 : b.natAbs < 2 ^ n) : RB n (Rat.divInt a b) := by
  rcases Int.lt_or_gt_of_ne hb with h | h
  · rw [← Rat.neg_divInt_neg]
    exact RB.div (by omega) (by rw [Int.natAbs_neg]; exact h1) (by rw [Int.natAbs_neg]; exact h2)
  · exact RB.div h h1 h2
theorem mem4 {ns : List Int} {i : Int} {P : Int → Prop} (h : ∀ x ∈ ns, P x) (h0 : 0 ≤ i) (h1 : i < ns.length) : P (nth ns i) := h _ (nth_mem h0 h1)
theorem three {α : Type} {ys : List α} (h : ys.length = 3) : ∃ a b c, ys = [a, b, c] := by
  match ys, h with
  | [a, b, c], _ => exact ⟨a, b, c, rfl⟩
def sp_law (K : PySem.W.Frag) : Sp := fun vs H Q _ => ∃ (a : Addr) (ns : List Int), vs = [.ref a] ∧ SqL K H a (ns.map V.int) ∧ ns.length ≤ 63 ∧ ∀ H', Q (.bl true) H'
theorem ok_law (T : Txt K mg) : FnOk P w K mg base CX0 7 T.a_law T.d_law ["_law_script"] (sp_law K) := by
  refine T.F_law.ok sc_law (fun vs H Q E h => ?_) (fun cdv A outer s H vs Q E hr h => ?_)
  · obtain ⟨_, _, rfl, _⟩ := h
    rfl
  · obtain ⟨a, sc, rfl, hS0, hlen, k⟩ := h
    have hS : Sq true K H a (sc.map V.int) := hS0
    have cS := T.C_Share
    refine ⟨_, (pss_cons (ps_for PassesOwn.never rfl (pi_range1 rfl T.z_range (pa_cons (pe_callB (cr_min2 rfl) (by rfl) T.z_min (by decide +kernel) (pa_cons (pe_callB (k_lenS (K := K) rfl) (by rfl) T.z_len (by decide +kernel) (pa_cons (pv 0) pa_nil)) (pa_cons pe_int pa_nil))) pa_nil)) (pg_name (i := 1) sc_law.nd rfl (Or.inl rfl))
      (pss_cons (ps_set (i := 2) sc_law.nd rfl (Or.inr rfl) (pe_call (ok_L_numbers T) (hr.mono (by decide)) (by rfl) T.g_L_numbers T.F_L_numbers.kp T.b_L_numbers .nil pass0 (pa_cons (pe_ix (k_ix (K := K) rfl) (pv 0) (pv 1) (fun _ _ => rfl)) (pa_cons (pv 1) (pa_cons pe_int pa_nil)))))
      (pss_cons (ps_setLc (i := 4) (own := [("_law_k", 3)]) (g := gName 3) (tt := tYes) rfl sc_law.nd rfl rfl (sw_true rfl rfl rfl (by decide +kernel)) (pi_range1 rfl T.z_range (pa_cons pe_int pa_nil)) (blkOk_by (own := [("_law_k", 3)]) (by kernel_rfl)) (fun _ _ _ _ _ => (pg_name (i := 3) sc_law.nd rfl (by first | exact Or.inl rfl | exact Or.inr rfl))) (fun _ _ _ _ _ => pts_nil) (fun _ _ _ _ _ => (pe_call (ok_L_fraction T) (hr.mono (by decide)) (by rfl) T.g_L_fraction T.F_L_fraction.kp T.b_L_fraction .nil pass0 (pa_cons (pv 2) (pa_cons (pe_op op_mul pe_int (pv 3)) pa_nil)))))
      (pss_cons (ps_set (i := 5) sc_law.nd rfl (Or.inl rfl) (pe_tup (pa_cons (pe_op op_mulX (pe_ix (k_ix (K := K) rfl) (pe_ix (k_ix (K := K) rfl) (pv 4) pe_int (fun _ _ => rfl)) pe_int (fun _ _ => rfl)) (pe_ix (k_ix (K := K) rfl) (pe_lst (pa_cons pe_int (pa_cons pe_int (pa_cons pe_int (pa_cons (pe_un un_neg pe_int) pa_nil))))) (pe_op op_mod (pe_callTy cr_int1 (by rfl) T.z_int (by decide +kernel) (pa_cons (pe_ix (k_ix (K := K) rfl) (pv 2) pe_int (fun _ _ => rfl)) pa_nil)) pe_int) (fun _ _ => rfl))) (pa_cons (pe_ix (k_ix (K := K) rfl) (pe_ix (k_ix (K := K) rfl) (pv 4) pe_int (fun _ _ => rfl)) pe_int (fun _ _ => rfl)) pa_nil))))
      (pss_cons (ps_set (i := 5) sc_law.nd rfl (Or.inl rfl) (pe_tup (pa_cons (pe_ix (k_ix (K := K) rfl) (pv 5) pe_int (fun _ _ => rfl)) (pa_cons (pe_op op_mulX (pe_ix (k_ix (K := K) rfl) (pv 5) pe_int (fun _ _ => rfl)) (pe_ix (k_ix (K := K) rfl) (pe_lst (pa_cons pe_int (pa_cons (pe_un un_neg pe_int) (pa_cons pe_int (pa_cons pe_int pa_nil))))) (pe_op op_mod (pe_callTy cr_int1 (by rfl) T.z_int (by decide +kernel) (pa_cons (pe_op op_fdiv (pe_ix (k_ix (K := K) rfl) (pv 2) pe_int (fun _ _ => rfl)) pe_int) pa_nil)) pe_int) (fun _ _ => rfl))) pa_nil))))
      (Evl.pss_cut (ps_if (PW.pt (pw_and (pt_cmpR (k_eqG (K := K) rfl hr.units) (pe_op op_mod (pe_callTy cr_int1 (by rfl) T.z_int (by decide +kernel) (pa_cons (pe_ix (k_ix (K := K) rfl) (pv 2) pe_int (fun _ _ => rfl)) pa_nil)) pe_int) pe_int (nomark _)) (pw_and (pt_cmpR op_lt (pe_callB cr_abs (by rfl) T.z_abs (by decide +kernel) (pa_cons (pe_ix (k_ix (K := K) rfl) (pv 5) pe_int (fun _ _ => rfl)) pa_nil)) (pe_op op_pow pe_int pe_int) (nomark _)) (pw_and1 (pt_cmpR op_lt (pe_callB cr_abs (by rfl) T.z_abs (by decide +kernel) (pa_cons (pe_ix (k_ix (K := K) rfl) (pv 5) pe_int (fun _ _ => rfl)) pa_nil)) (pe_op op_pow pe_int pe_int) (nomark _)))))) (pss_one (ps_asg (pv 5) (pg_sub (pv 4) pe_int set_list))) pss_nil)
      (pss_cons (ps_set (i := 5) sc_law.nd rfl (Or.inl rfl) (pe_tup (pa_cons (pe_op (k_addG (K := K) rfl) (pe_ix (k_ix (K := K) rfl) (pe_ix (k_ix (K := K) rfl) (pv 4) pe_int (fun _ _ => rfl)) pe_int (fun _ _ => rfl)) (pe_ix (k_ix (K := K) rfl) (pe_lst (pa_cons pe_int (pa_cons pe_int (pa_cons (pe_un un_neg pe_int) pa_nil)))) (pe_op op_mod (pe_callTy cr_int1 (by rfl) T.z_int (by decide +kernel) (pa_cons (pe_ix (k_ix (K := K) rfl) (pv 2) pe_int (fun _ _ => rfl)) pa_nil)) pe_int) (fun _ _ => rfl))) (pa_cons (pe_op (k_addG (K := K) rfl) (pe_ix (k_ix (K := K) rfl) (pe_ix (k_ix (K := K) rfl) (pv 4) pe_int (fun _ _ => rfl)) pe_int (fun _ _ => rfl)) (pe_ix (k_ix (K := K) rfl) (pe_lst (pa_cons pe_int (pa_cons (pe_un un_neg pe_int) (pa_cons pe_int pa_nil)))) (pe_op op_mod (pe_callTy cr_int1 (by rfl) T.z_int (by decide +kernel) (pa_cons (pe_op op_fdiv (pe_ix (k_ix (K := K) rfl) (pv 2) pe_int (fun _ _ => rfl)) pe_int) pa_nil)) pe_int) (fun _ _ => rfl))) pa_nil))))
      (Evl.pss_cut (ps_if (PW.pt (pw_and (pt_cmpR (k_eqG (K := K) rfl hr.units) (pe_op op_mod (pe_callTy cr_int1 (by rfl) T.z_int (by decide +kernel) (pa_cons (pe_ix (k_ix (K := K) rfl) (pv 2) pe_int (fun _ _ => rfl)) pa_nil)) pe_int) pe_int (nomark _)) (pw_and (pt_cmpR (k_neG (K := K) rfl hr.units) (pe_ix (k_ix (K := K) rfl) (pv 5) pe_int (fun _ _ => rfl)) pe_int (nomark _)) (pw_and (pt_cmpR op_lt (pe_callB cr_abs (by rfl) T.z_abs (by decide +kernel) (pa_cons (pe_ix (k_ix (K := K) rfl) (pv 5) pe_int (fun _ _ => rfl)) pa_nil)) (pe_op op_pow pe_int pe_int) (nomark _)) (pw_and1 (pt_cmpR op_lt (pe_callB cr_abs (by rfl) T.z_abs (by decide +kernel) (pa_cons (pe_ix (k_ix (K := K) rfl) (pv 5) pe_int (fun _ _ => rfl)) pa_nil)) (pe_op op_pow pe_int pe_int) (nomark _))))))) (pss_one (ps_asg (pv 5) (pg_sub (pv 4) pe_int set_list))) pss_nil)
      (pss_cons (ps_setLc (i := 6) (own := [("_law_raw", 10)]) (g := gName 10) (tt := tYes) rfl sc_law.nd rfl rfl (sw_true rfl rfl rfl (by decide +kernel)) (k_seqS (K := K) rfl (pv 4)) (blkOk_by (own := [("_law_raw", 10)]) (by kernel_rfl)) (fun _ _ _ _ _ => (pg_name (i := 10) sc_law.nd rfl (by first | exact Or.inl rfl | exact Or.inr rfl))) (fun _ _ _ _ _ => pts_nil) (fun _ _ _ _ _ => (pe_call (ok_L_least T) (hr.mono (by decide)) (by rfl) T.g_L_least T.F_L_least.kp T.b_L_least .nil pass0 (pa_cons (pe_ix (k_ix (K := K) rfl) (pv 10) pe_int (fun _ _ => rfl)) (pa_cons (pe_ix (k_ix (K := K) rfl) (pv 10) pe_int (fun _ _ => rfl)) pa_nil)))))
      (pss_cons (ps_setLc (i := 7) (own := [("_law_raw", 10)]) (g := gName 10) (tt := tYes) rfl sc_law.nd rfl rfl (sw_true rfl rfl rfl (by decide +kernel)) (k_seqS (K := K) rfl (pv 4)) (blkOk_by (own := [("_law_raw", 10)]) (by kernel_rfl)) (fun _ _ _ _ _ => (pg_name (i := 10) sc_law.nd rfl (by first | exact Or.inl rfl | exact Or.inr rfl))) (fun _ _ _ _ _ => pts_nil) (fun _ _ _ _ _ => (pe_make T.M_Share (ok_Share___init__ T) (hr.mono (by decide)) rfl T.gc_Share T.b_Share___init__ .nil pass0 (pa_cons (pe_ix (k_ix (K := K) rfl) (pv 10) pe_int (fun _ _ => rfl)) (pa_cons (pe_ix (k_ix (K := K) rfl) (pv 10) pe_int (fun _ _ => rfl)) pa_nil)))))
      (pss_cons (ps_for PassesOwn.never rfl (pi_range1 rfl T.z_range (pa_cons (pe_callB (k_lenS (K := K) rfl) (by rfl) T.z_len (by decide +kernel) (pa_cons (pv 4) pa_nil)) pa_nil)) (pg_name (i := 3) sc_law.nd rfl (Or.inl rfl))
      (pss_cons (ps_if (pt_not (k_tru (K := K) rfl (pe_call (ok_L_is_share T) (hr.mono (by decide)) (by rfl) T.g_L_is_share T.F_L_is_share.kp T.b_L_is_share .nil pass0 (pa_cons (pe_ix (k_ix (K := K) rfl) (pv 7) (pv 3) (fun _ _ => rfl)) (pa_cons (pe_ix (k_ix (K := K) rfl) (pv 6) (pv 3) (fun _ _ => rfl)) pa_nil))) (by intro _; rfl))) (pss_one (ps_ret pe_bl)) pss_nil)
      (pss_cons (ps_for PassesOwn.never rfl (pi_range1 rfl T.z_range (pa_cons (pe_callB (k_lenS (K := K) rfl) (by rfl) T.z_len (by decide +kernel) (pa_cons (pv 4) pa_nil)) pa_nil)) (pg_name (i := 8) sc_law.nd rfl (Or.inl rfl))
      (pss_one (ps_if (pt_not (k_tru (K := K) rfl (pe_call (ok_L_pair T) (hr.mono (by decide)) (by rfl) T.g_L_pair T.F_L_pair.kp T.b_L_pair .nil pass0 (pa_cons (pe_ix (k_ix (K := K) rfl) (pv 7) (pv 3) (fun _ _ => rfl)) (pa_cons (pe_ix (k_ix (K := K) rfl) (pv 6) (pv 3) (fun _ _ => rfl)) (pa_cons (pe_ix (k_ix (K := K) rfl) (pv 7) (pv 8) (fun _ _ => rfl)) (pa_cons (pe_ix (k_ix (K := K) rfl) (pv 6) (pv 8) (fun _ _ => rfl)) pa_nil))))) (by intro _; rfl))) (pss_one (ps_ret pe_bl)) pss_nil)))
      (pss_cons (ps_if (pt_not (k_tru (K := K) rfl (pe_call (ok_L_is_share T) (hr.mono (by decide)) (by rfl) T.g_L_is_share T.F_L_is_share.kp T.b_L_is_share .nil pass0 (pa_cons (pe_ix (k_ix (K := K) rfl) (pv 7) (pv 3) (fun _ _ => rfl)) (pa_cons (pe_ix (k_ix (K := K) rfl) (pv 6) (pv 3) (fun _ _ => rfl)) pa_nil))) (by intro _; rfl))) (pss_one (ps_ret pe_bl)) pss_nil)
      (pss_one (ps_for PassesOwn.never rfl (k_seqS (K := K) rfl (pe_lst (pa_cons (pe_ix (k_ix (K := K) rfl) (pv 6) (pv 3) (fun _ _ => rfl)) (pa_cons (pe_ix (k_ix (K := K) rfl) (pe_ix (k_ix (K := K) rfl) (pv 6) (pv 3) (fun _ _ => rfl)) pe_int (fun _ _ => rfl)) (pa_cons pe_non (pa_cons pe_str (pa_cons (pe_lst (pa_cons (pe_ix (k_ix (K := K) rfl) (pe_ix (k_ix (K := K) rfl) (pv 6) (pv 3) (fun _ _ => rfl)) pe_int (fun _ _ => rfl)) (pa_cons (pe_ix (k_ix (K := K) rfl) (pe_ix (k_ix (K := K) rfl) (pv 6) (pv 3) (fun _ _ => rfl)) pe_int (fun _ _ => rfl)) pa_nil))) (pa_cons pe_bl pa_nil)))))))) (pg_name (i := 9) sc_law.nd rfl (Or.inl rfl))
      (pss_one (ps_if (PW.pt (pw_or (pt_not (k_tru (K := K) rfl (pe_call (ok_L_same_at T 3) (hr.mono (by decide)) (by rfl) T.g_L_same T.F_L_same.kp T.b_L_same .nil pass0 (pa_cons (pe_cmpR (op_eqO T.e_Share (ok_Share___eq__ T) (hr.mono (by decide)) T.b_Share___eq__ pass0) (pe_ix (k_ix (K := K) rfl) (pv 7) (pv 3) (fun _ _ => rfl)) (pv 9) (nomark _)) (pa_cons pe_bl pa_nil))) (by intro _; rfl))) (pw_or1 (pt_not (k_tru (K := K) rfl (pe_call (ok_L_same_at T 3) (hr.mono (by decide)) (by rfl) T.g_L_same T.F_L_same.kp T.b_L_same .nil pass0 (pa_cons (pe_cmpR (op_neO T.e_Share (ok_Share___eq__ T) (hr.mono (by decide)) T.b_Share___eq__ pass0) (pe_ix (k_ix (K := K) rfl) (pv 7) (pv 3) (fun _ _ => rfl)) (pv 9) (nomark _)) (pa_cons pe_bl pa_nil))) (by intro _; rfl)))))) (pss_one (ps_ret pe_bl)) pss_nil))))))))
      (pss_one (ps_if (pt_not (k_tru (K := K) rfl (pe_call (ok_L_refuses T) (hr.mono (by decide)) (by rfl) T.g_L_refuses T.F_L_refuses.kp T.b_L_refuses .nil pass0 (pa_cons (pe_ix (k_ix (K := K) rfl) (pe_ix (k_ix (K := K) rfl) (pv 4) pe_int (fun _ _ => rfl)) pe_int (fun _ _ => rfl)) pa_nil)) (by intro _; rfl))) (pss_one (ps_ret pe_bl)) pss_nil)))))))))))))
      (pss_one (ps_ret pe_bl))), ?_⟩
    refine go_start (σ' := [some (.ref a), none, none, none, none, none, none, none, none, none, none]) rfl ?_
    try dsimp only [cxOf, Cx.nox, Cx.wish]
    walk_at "go"
    have hm : (if (12 : Int) < (sc.length : Int) then 12 else (sc.length : Int)) ≤ sc.length ∧ (if (12 : Int) < (sc.length : Int) then 12 else (sc.length : Int)) ≤ 12 ∧ (0 : Int) ≤ (if (12 : Int) < (sc.length : Int) then 12 else (sc.length : Int)) := by split <;> omega
    refine l_range (fun i σ H' => ∃ (y1 y2 y3 y4 y5 y6 y7 y8 y9 : Option V), σ = [some (.ref a), y1, y2, y3, y4, y5, y6, y7, y8, y9, none] ∧ Same H H')
      (by omega) (by omega) ⟨none, none, none, none, none, none, none, none, none, rfl, Same.refl _⟩ ?_ ?_
    · rintro i σ H' hi ⟨y1, y2, y3, y4, y5, y6, y7, y8, y9, rfl, sm⟩
      walk_at "go"
      refine ⟨_, _, _, rfl, by omega, by omega, fun ns p H1 hnl hnb s1 hp hL => ?_⟩
      have nn : ∀ i : Int, 0 ≤ i → i < 90 → 0 ≤ nth ns i ∧ nth ns i < 1000 := fun i h0 h1 => hnb _ (nth_mem h0 (by omega))
      have m84 := nn 84 (by omega) (by omega)
      have m85 := nn 85 (by omega) (by omega)
      have m86 := nn 86 (by omega) (by omega)
      walk_at "go"
      refine c_repR (R := RGood) RGood.mono RGood.tup (by omega) (by omega) [(), (), ()] rfl (fun _ => rfl) (fun j d H2 N hj hd s2 hN => ?_) (fun D H2 ys hD s2 e2 hyl hyr => ?_)
      · walk_at "go"
        refine ⟨p, ns, 28 * (j : Int), rfl, s2 _ _ hL, hnb, by omega, by omega, fun v q H4 s4 b1 b2 b3 r => ?_⟩
        walk_at "go"
        exact hN _ _ s4 ⟨q, b1, b2, b3, r⟩
      obtain ⟨r0, r1, r2, rfl⟩ := three hyl
      obtain ⟨q0, b01, b02, b03, a0, rfl, h0⟩ := hyr 0 r0 () rfl rfl
      have g1 := hyr 1 r1 () rfl rfl
      have g2 := hyr 2 r2 () rfl rfl
      clear hyr hyl
      have hL2 := s2 _ _ hL
      have n0D : a0 ≠ D := fun e => by rw [e, e2] at h0; cases h0
      have npD : p ≠ D := fun e => by rw [e, hD] at hL; cases hL
      walk_at "go"
      refine w_ix (Sq.lst e2) (atI_nat (j := 0) rfl) ?_
      walk_at "go"
      refine w_ix (Sq.tup h0) (atI_nat (j := 0) rfl) ?_
      walk_at "go"
      refine ⟨by show 4 ≤ sizeLine; decide, fun p3 hp3 => ?_⟩
      have s3 := Same.new (o := .lst (([6, 6, 1, -1] : List Int).map V.int)) hp3
      have e3 : (upd H2 p3 (.lst (([6, 6, 1, -1] : List Int).map V.int))) p3 = some (.lst (([6, 6, 1, -1] : List Int).map V.int)) := upd_same
      generalize eH3 : upd H2 p3 _ = H3
      have s3 : Same H2 H3 := by rw [← eH3]; exact s3
      have e3 : H3 p3 = some (.lst (([6, 6, 1, -1] : List Int).map V.int)) := by rw [← eH3]; exact e3
      clear eH3
      have hL3 := s3 _ _ hL2
      walk_at "go"
      have fb1 := mem4 (ns := [6, 6, 1, -1]) (P := fun x => -10 < x ∧ x < 10 ∧ x ≠ 0) (by decide) (i := nth ns 85 % 4) (by omega) (by show _ < (4 : Int); omega)
      generalize nth [6, 6, 1, -1] (nth ns 85 % 4) = f1 at fb1 ⊢
      refine w_I (mulW (big_up (big40_bits b01) (by omega)) (big_up (n := 10) (by show f1.natAbs < 1024; omega) (by omega))) ?_
      generalize q0.1 * f1 = x1
      walk_at "go"
      have h03 := s3 _ _ h0
      have e23 := s3 _ _ e2
      refine w_ix (Sq.lst e23) (atI_nat (j := 0) rfl) ?_
      walk_at "go"
      refine w_ix (Sq.tup h03) (atI_nat (j := 1) rfl) ?_
      walk_at "go"
      refine ⟨by show 2 ≤ sizeLine; decide, fun p4 hp4 => ?_⟩
      have s4 := Same.new (o := .tup [.int x1, .int q0.2]) hp4
      have e4 : (upd H3 p4 (.tup [.int x1, .int q0.2])) p4 = some (.tup [.int x1, .int q0.2]) := upd_same
      generalize upd H3 p4 (.tup [.int x1, .int q0.2]) = H4 at s4 e4 ⊢
      have hL4 := s4 _ _ hL3
      walk_at "go"
      refine w_ix (Sq.tup e4) (atI_nat (j := 0) rfl) ?_
      walk_at "go"
      refine w_ix (Sq.tup e4) (atI_nat (j := 1) rfl) ?_
      walk_at "go"
      refine ⟨by show 4 ≤ sizeLine; decide, fun p5 hp5 => ?_⟩
      have s5 := Same.new (o := .lst (([6, -6, 1, 2] : List Int).map V.int)) hp5
      have e5 : (upd H4 p5 (.lst (([6, -6, 1, 2] : List Int).map V.int))) p5 = some (.lst (([6, -6, 1, 2] : List Int).map V.int)) := upd_same
      generalize eH5 : upd H4 p5 _ = H5
      have s5 : Same H4 H5 := by rw [← eH5]; exact s5
      have e5 : H5 p5 = some (.lst (([6, -6, 1, 2] : List Int).map V.int)) := by rw [← eH5]; exact e5
      clear eH5
      have hL5 := s5 _ _ hL4
      walk_at "go"
      have fb2 := mem4 (ns := [6, -6, 1, 2]) (P := fun x => -10 < x ∧ x < 10 ∧ x ≠ 0) (by decide) (i := nth ns 85 / 4 % 4) (by omega) (by show _ < (4 : Int); omega)
      generalize nth [6, -6, 1, 2] (nth ns 85 / 4 % 4) = f2 at fb2 ⊢
      refine w_I (mulW (big_up (big40_bits b02) (by omega)) (big_up (n := 10) (by show f2.natAbs < 1024; omega) (by omega))) ?_
      have hy0 : q0.2 * f2 ≠ 0 := Int.mul_ne_zero b03 fb2.2.2
      generalize q0.2 * f2 = y0 at hy0 ⊢
      walk_at "go"
      refine ⟨by show 2 ≤ sizeLine; decide, fun p6 hp6 => ?_⟩
      have s6 := Same.new (o := .tup [.int x1, .int y0]) hp6
      have e6 : (upd H5 p6 (.tup [.int x1, .int y0])) p6 = some (.tup [.int x1, .int y0]) := upd_same
      generalize upd H5 p6 (.tup [.int x1, .int y0]) = H6 at s6 e6 ⊢
      have hL6 := s6 _ _ hL5
      have s26 := ((s3.trans s4).trans s5).trans s6
      have e26 := s26 _ _ e2
      have g16 := RGood.mono _ _ _ _ s26 g1
      clear s3 s4 s5 s6 e3 e4 e5 h03 e23 hL3 hL4 hL5 g1
      walk_at "go"
      refine w_cut (fun σ H' => ∃ (v1 : V), σ = [some (.ref a), some (.int (i : Nat)), some (.ref p), y3, some (.ref D), some (.ref p6), y6, y7, y8, y9, none] ∧ Fr D H6 H' ∧ H' D = some (.lst [.ref a0, v1, r2]) ∧ RGood H' v1 ()) ?_ ?_
      · walk_at "go"
        refine w_iteD (fun hc => ?_) (fun hc => ?_)
        · walk_at "go"
          refine w_ix (Sq.tup e6) (atI_nat (j := 0) rfl) ?_
          walk_at "go"
          refine w_iteD (fun hx => ?_) (fun hx => ?_)
          · walk_at "go"
            refine w_ix (Sq.tup e6) (atI_nat (j := 1) rfl) ?_
            walk_at "go"
            refine w_iteD (fun hy => ?_) (fun hy => ?_)
            · walk_at "go"
              refine w_setL e26 (by decide) (by show (1 : Int) < 3; decide) ?_
              exact ⟨.ref p6, rfl, (Fr.refl _ _).upd _, upd_same, (x1, y0), big40_abs hx, big40_abs hy, hy0, p6, rfl, (upd_ne (fun e => by rw [e, e26] at e6; cases e6)).trans e6⟩
            · walk_at "go"
              exact ⟨_, rfl, Fr.refl _ _, e26, g16⟩
          · walk_at "go"
            exact ⟨_, rfl, Fr.refl _ _, e26, g16⟩
        · walk_at "go"
          exact ⟨_, rfl, Fr.refl _ _, e26, g16⟩
      · rintro σ H7 ⟨v1, rfl, f7, e7, g7⟩
        have hL7 := f7 _ _ npD hL6
        have h07 := f7 _ _ n0D (s26 _ _ h0)
        have g27 := (RGood.mono _ _ _ _ s26 g2).fr f7 e26
        have s27 : Same H1 H7 := (Fr.back hD ((Fr.same (s2.trans s26)).trans f7))
        clear g16 e26 s26 h0 g2 e2 s2 hL2 hL6 e6 f7 hy0
        walk_at "go"
        refine w_ix (Sq.lst e7) (atI_nat (j := 0) rfl) ?_
        walk_at "go"
        refine w_ix (Sq.tup h07) (atI_nat (j := 0) rfl) ?_
        walk_at "go"
        refine ⟨by show 3 ≤ sizeLine; decide, fun p8 hp8 => ?_⟩
        have s8 := Same.new (o := .lst (([0, 1, -1] : List Int).map V.int)) hp8
        have e8 : (upd H7 p8 (.lst (([0, 1, -1] : List Int).map V.int))) p8 = some (.lst (([0, 1, -1] : List Int).map V.int)) := upd_same
        generalize eH8 : upd H7 p8 _ = H8
        have s8 : Same H7 H8 := by rw [← eH8]; exact s8
        have e8 : H8 p8 = some (.lst (([0, 1, -1] : List Int).map V.int)) := by rw [← eH8]; exact e8
        clear eH8
        have hL8 := s8 _ _ hL7
        walk_at "go"
        generalize q0.1 + nth [0, 1, -1] (nth ns 86 % 3) = x2
        have h08 := s8 _ _ h07
        have e78 := s8 _ _ e7
        refine w_ix (Sq.lst e78) (atI_nat (j := 0) rfl) ?_
        walk_at "go"
        refine w_ix (Sq.tup h08) (atI_nat (j := 1) rfl) ?_
        walk_at "go"
        refine ⟨by show 3 ≤ sizeLine; decide, fun p9 hp9 => ?_⟩
        have s9 := Same.new (o := .lst (([1, -1, 0] : List Int).map V.int)) hp9
        have e9 : (upd H8 p9 (.lst (([1, -1, 0] : List Int).map V.int))) p9 = some (.lst (([1, -1, 0] : List Int).map V.int)) := upd_same
        generalize eH9 : upd H8 p9 _ = H9
        have s9 : Same H8 H9 := by rw [← eH9]; exact s9
        have e9 : H9 p9 = some (.lst (([1, -1, 0] : List Int).map V.int)) := by rw [← eH9]; exact e9
        clear eH9
        have hL9 := s9 _ _ hL8
        walk_at "go"
        generalize q0.2 + nth [1, -1, 0] (nth ns 86 / 3 % 3) = z2
        refine ⟨by show 2 ≤ sizeLine; decide, fun pa hpa => ?_⟩
        have sa := Same.new (o := .tup [.int x2, .int z2]) hpa
        have ea : (upd H9 pa (.tup [.int x2, .int z2])) pa = some (.tup [.int x2, .int z2]) := upd_same
        generalize upd H9 pa (.tup [.int x2, .int z2]) = Ha at sa ea ⊢
        have hLa := sa _ _ hL9
        have s7a := (s8.trans s9).trans sa
        have e7a := s7a _ _ e7
        have g7a := RGood.mono _ _ _ _ s7a g7
        have g2a := RGood.mono _ _ _ _ s7a g27
        have h0a := s7a _ _ h07
        have s1a := s27.trans s7a
        clear s8 s9 sa e8 e9 h08 e78 hL8 hL9 hL7 e7 g7 g27 h07 s27
        walk_at "go"
        refine w_cut (fun σ H' => ∃ (v1 : V), σ = [some (.ref a), some (.int (i : Nat)), some (.ref p), y3, some (.ref D), some (.ref pa), y6, y7, y8, y9, none] ∧ Fr D Ha H' ∧ H' D = some (.lst [.ref a0, v1, r2]) ∧ RGood H' v1 ()) ?_ ?_
        · walk_at "go"
          refine w_iteD (fun hc => ?_) (fun hc => ?_)
          · walk_at "go"
            refine w_ix (Sq.tup ea) (atI_nat (j := 1) rfl) ?_
            walk_at "go"
            refine w_iteN (fun hz => ?_) (fun hz => ?_)
            · walk_at "go"
              refine w_ix (Sq.tup ea) (atI_nat (j := 0) rfl) ?_
              walk_at "go"
              refine w_iteD (fun hx => ?_) (fun hx => ?_)
              · walk_at "go"
                refine w_ix (Sq.tup ea) (atI_nat (j := 1) rfl) ?_
                walk_at "go"
                refine w_iteD (fun hy => ?_) (fun hy => ?_)
                · walk_at "go"
                  refine w_setL e7a (by decide) (by show (1 : Int) < 3; decide) ?_
                  exact ⟨.ref pa, rfl, (Fr.refl _ _).upd _, upd_same, (x2, z2), big40_abs hx, big40_abs hy, hz, pa, rfl, (upd_ne (fun e => by rw [e, e7a] at ea; cases ea)).trans ea⟩
                · walk_at "go"
                  exact ⟨_, rfl, Fr.refl _ _, e7a, g7a⟩
              · walk_at "go"
                exact ⟨_, rfl, Fr.refl _ _, e7a, g7a⟩
            · walk_at "go"
              exact ⟨_, rfl, Fr.refl _ _, e7a, g7a⟩
          · walk_at "go"
            exact ⟨_, rfl, Fr.refl _ _, e7a, g7a⟩
        · rintro σ Hb ⟨w1, rfl, fb, eb, gb⟩
          have hLb := fb _ _ npD hLa
          have h0b := fb _ _ n0D h0a
          have g2b := g2a.fr fb e7a
          have s1b : Same H1 Hb := Fr.back hD ((Fr.same s1a).trans fb)
          clear g7a e7a g2a hLa ea s1a fb s7a h0a
          obtain ⟨q1, b11, b12, b13, a1, rfl, h1b⟩ := gb
          obtain ⟨q2, b21, b22, b23, a2, rfl, h2b⟩ := g2b
          have hraw : ∀ (j : Nat) y, [V.ref a0, V.ref a1, V.ref a2][j]? = some y → ∃ q, [q0, q1, q2][j]? = some q ∧ big40 q.1 ∧ big40 q.2 ∧ q.2 ≠ 0 ∧ RRaw Hb y q := fun j y hy => by
            match j, hy with
            | 0, hy => cases hy; exact ⟨_, rfl, b01, b02, b03, a0, rfl, h0b⟩
            | 1, hy => cases hy; exact ⟨_, rfl, b11, b12, b13, a1, rfl, h1b⟩
            | 2, hy => cases hy; exact ⟨_, rfl, b21, b22, b23, a2, rfl, h2b⟩
            | j + 3, hy => simp at hy
          have hbits : ∀ d ∈ [Rat.divInt q0.1 q0.2, Rat.divInt q1.1 q1.2, Rat.divInt q2.1 q2.2], RB 133 d := fun d hd => by
            simp only [List.mem_cons, List.not_mem_nil, or_false] at hd
            rcases hd with rfl | rfl | rfl
            · exact RB.divN b03 (big40_bits b01) (big40_bits b02)
            · exact RB.divN b13 (big40_bits b11) (big40_bits b12)
            · exact RB.divN b23 (big40_bits b21) (big40_bits b22)
          walk_at "go"
          refine c_rep (R := RFrac K) RFrac.mono RFrac.tup [.ref a0, .ref a1, .ref a2] (Sq.lst eb) [Rat.divInt q0.1 q0.2, Rat.divInt q1.1 q1.2, Rat.divInt q2.1 q2.2] rfl (by show 3 < sizeLine; decide) (fun _ => rfl) (fun j y d Hc N hj hy hd sc hN => ?_) (fun Dd Hd ds hDd sd ed hdl hdr => ?_)
          · obtain ⟨q, hq, c1, c2, c3, rq⟩ := hraw j y hy
            obtain ⟨aq, rfl, hq0⟩ := RRaw.mono _ _ _ _ sc rq
            have eq : d = Rat.divInt q.1 q.2 := by
              have : ([q0, q1, q2].map fun q => Rat.divInt q.1 q.2)[j]? = some d := hd
              rw [List.getElem?_map, hq] at this
              exact (Option.some.inj this).symm
            subst eq
            walk_at "go"
            refine w_ix (Sq.tup hq0) (atI_nat (j := 0) rfl) ?_
            walk_at "go"
            refine w_ix (Sq.tup hq0) (atI_nat (j := 1) rfl) ?_
            walk_at "go"
            refine ⟨_, _, rfl, c3, big_up (big40_bits c1) (by omega), big_up (big40_bits c2) (by omega), fun v He se re => ?_⟩
            walk_at "go"
            exact hN _ _ se re
          have ebd := sd _ _ eb
          have hLd := sd _ _ hLb
          walk_at "go"
          refine c_repL (R := RShare T.c_Share) RShare.mono RShare.lst [.ref a0, .ref a1, .ref a2] (Sq.lst ebd) [Rat.divInt q0.1 q0.2, Rat.divInt q1.1 q1.2, Rat.divInt q2.1 q2.2] rfl (by show 3 < sizeLine; decide) (fun _ => rfl) (fun j y d Hc N hj hy hd sc hN => ?_) (fun Ds Hs ss hDs se es hsl hsr => ?_)
          · obtain ⟨q, hq, c1, c2, c3, rq⟩ := hraw j y hy
            obtain ⟨aq, rfl, hq0⟩ := RRaw.mono _ _ _ _ (sd.trans sc) rq
            have eq : d = Rat.divInt q.1 q.2 := by
              have : ([q0, q1, q2].map fun q => Rat.divInt q.1 q.2)[j]? = some d := hd
              rw [List.getElem?_map, hq] at this
              exact (Option.some.inj this).symm
            subst eq
            walk_at "go"
            refine w_ix (Sq.tup hq0) (atI_nat (j := 0) rfl) ?_
            walk_at "go"
            refine w_ix (Sq.tup hq0) (atI_nat (j := 1) rfl) ?_
            walk_at "go"
            intro x dx hx hdx hne
            exact share_made hx hdx c3 (big_up (big40_bits c1) (by omega)) (big_up (big40_bits c2) (by omega)) fun H' s r => ⟨rfl, hN _ _ s r⟩
          have ebs := se _ _ ebd
          have eds := se _ _ ed
          have h0s := (sd.trans se) _ _ h0b
          have hdr : ∀ (i : Nat) y d, ds[i]? = some y → [Rat.divInt q0.1 q0.2, Rat.divInt q1.1 q1.2, Rat.divInt q2.1 q2.2][i]? = some d → RFrac K Hs y d := fun i y d e1 e2 => RFrac.mono _ _ _ _ se (hdr i y d e1 e2)
          have s1s := (s1b.trans sd).trans se
          clear hraw eb ebd ed hLb hLd s1b sd se h0b h1b h2b
          have hq3 : [Rat.divInt q0.1 q0.2, Rat.divInt q1.1 q1.2, Rat.divInt q2.1 q2.2].length = 3 := rfl
          generalize [Rat.divInt q0.1 q0.2, Rat.divInt q1.1 q1.2, Rat.divInt q2.1 q2.2] = qs at hbits hdl hdr hsl hsr hq3
          have getS : ∀ (j : Nat), j < 3 → ∃ ys yd d, ss[j]? = some ys ∧ ds[j]? = some yd ∧ RShare T.c_Share Hs ys d ∧ RFrac K Hs yd d ∧ RB 133 d := fun j hj => by
            have e1 : qs[j]? = some (qs[j]'(by omega)) := List.getElem?_eq_getElem (by omega)
            have e2 : ss[j]? = some (ss[j]'(by omega)) := List.getElem?_eq_getElem (by omega)
            have e3 : ds[j]? = some (ds[j]'(by omega)) := List.getElem?_eq_getElem (by omega)
            exact ⟨_, _, _, e2, e3, hsr _ _ _ e2 e1, hdr _ _ _ e3 e1, hbits _ (List.getElem_mem _)⟩
          clear hdr hsr hbits
          walk_at "go"
          refine l_range (fun j σ H' => ∃ (y3 y8 y9 : Option V), σ = [some (.ref a), some (.int (i : Nat)), some (.ref p), y3, some (.ref D), some (.ref pa), some (.ref Dd), some (.ref Ds), y8, y9, none] ∧ Same Hs H')
            (by show _ ≤ (3 : Int); decide) (by show (3 : Int) < _; decide) ⟨_, _, _, rfl, Same.refl _⟩ ?_ ?_
          · rintro j σ He hj ⟨y3, y8, y9, rfl, sh⟩
            have hj : j < 3 := by
              have : (j : Int) < (3 : Int) := hj
              omega
            obtain ⟨vs, vd, d, hvs, hvd, rs, rd, bd⟩ := getS j hj
            have eBs := sh _ _ ebs
            walk_at "go"
            refine w_ix (Sq.lst (sh _ _ es)) (atI_nat hvs) ?_
            walk_at "go"
            refine w_ix (Sq.lst (sh _ _ eds)) (atI_nat hvd) ?_
            walk_at "go"
            refine ⟨_, _, d, rfl, RShare.mono _ _ _ _ sh rs, RFrac.mono _ _ _ _ sh rd, fun Hf sf => ?_⟩
            have sf := sh.trans sf
            have eBf := sf _ _ ebs
            clear eBs
            walk_at "go"
            refine l_range (fun jj σ H' => ∃ (y8 : Option V), σ = [some (.ref a), some (.int (i : Nat)), some (.ref p), some (.int (j : Nat)), some (.ref D), some (.ref pa), some (.ref Dd), some (.ref Ds), y8, y9, none] ∧ Same Hs H')
              (by show _ ≤ (3 : Int); decide) (by show (3 : Int) < _; decide) ⟨_, rfl, sf⟩ ?_ ?_
            · rintro jj σ Hg hjj ⟨y8, rfl, sg⟩
              have hjj : jj < 3 := by
                have : (jj : Int) < (3 : Int) := hjj
                omega
              obtain ⟨vs2, vd2, d2, hvs2, hvd2, rs2, rd2, bd2⟩ := getS jj hjj
              walk_at "go"
              refine w_ix (Sq.lst (sg _ _ es)) (atI_nat hvs) ?_
              walk_at "go"
              refine w_ix (Sq.lst (sg _ _ eds)) (atI_nat hvd) ?_
              walk_at "go"
              refine w_ix (Sq.lst (sg _ _ es)) (atI_nat hvs2) ?_
              walk_at "go"
              refine w_ix (Sq.lst (sg _ _ eds)) (atI_nat hvd2) ?_
              walk_at "go"
              refine ⟨_, _, _, _, d, d2, rfl, RShare.mono _ _ _ _ sg rs, RFrac.mono _ _ _ _ sg rd, RShare.mono _ _ _ _ sg rs2, RFrac.mono _ _ _ _ sg rd2, bd, bd2, fun Hh sh' => ?_⟩
              walk_at "go"
              exact ⟨_, rfl, sg.trans sh'⟩
            · rintro σ Hg ⟨y8, rfl, sg⟩
              walk_at "go"
              refine w_ix (Sq.lst (sg _ _ es)) (atI_nat hvs) ?_
              walk_at "go"
              refine w_ix (Sq.lst (sg _ _ eds)) (atI_nat hvd) ?_
              walk_at "go"
              refine ⟨_, _, d, rfl, RShare.mono _ _ _ _ sg rs, RFrac.mono _ _ _ _ sg rd, fun Hh sh' => ?_⟩
              have sh2 := sg.trans sh'
              have rs2 := RShare.mono _ _ _ _ sh2 rs
              have rd2 := RFrac.mono _ _ _ _ sh2 rd
              obtain ⟨ad, rfl, hd2⟩ := id rd2
              walk_at "go"
              refine w_ix (Sq.lst (sh2 _ _ eds)) (atI_nat hvd) ?_
              walk_at "go"
              refine w_ix (Sq.lst (sh2 _ _ eds)) (atI_nat hvd) ?_
              walk_at "go"
              refine w_ix hd2 (atI_nat (j := 0) rfl) ?_
              walk_at "go"
              refine w_ix (Sq.lst (sh2 _ _ eds)) (atI_nat hvd) ?_
              walk_at "go"
              refine w_ix hd2 (atI_nat (j := 0) rfl) ?_
              walk_at "go"
              refine w_ix (Sq.lst (sh2 _ _ eds)) (atI_nat hvd) ?_
              walk_at "go"
              refine w_ix hd2 (atI_nat (j := 1) rfl) ?_
              walk_at "go"
              refine ⟨by show 2 ≤ sizeLine; decide, fun pi hpi => ?_⟩
              have si := Same.new (o := .lst [.int d.num, .int (d.den : Int)]) hpi
              have ei : (upd Hh pi (.lst [.int d.num, .int (d.den : Int)])) pi = some (.lst [.int d.num, .int (d.den : Int)]) := upd_same
              generalize upd Hh pi (.lst [.int d.num, .int (d.den : Int)]) = Hi at si ei ⊢
              walk_at "go"
              refine ⟨by show 6 ≤ sizeLine; decide, fun pj hpj => ?_⟩
              have sj := Same.new (o := .lst [.ref ad, .int d.num, .non, .str "1", .ref pi, .bl true]) hpj
              have ej : (upd Hi pj (.lst [.ref ad, .int d.num, .non, .str "1", .ref pi, .bl true])) pj = some (.lst [.ref ad, .int d.num, .non, .str "1", .ref pi, .bl true]) := upd_same
              generalize upd Hi pj (.lst [.ref ad, .int d.num, .non, .str "1", .ref pi, .bl true]) = Hj at sj ej ⊢
              have shj := (sh2.trans si).trans sj
              have hty : ∀ (jj : Nat) y, [V.ref ad, .int d.num, .non, .str "1", .ref pi, .bl true][jj]? = some y → ∀ H', Same Hj H' → ∃ n : String, TyX K H' y (.type n) ∧ PySem.W.subIn K (.type n) (.ref T.c_Share) = some false := fun jj y hy H' s' => by
                match jj, hy with
                | 0, hy => cases hy; exact ⟨_, tyx_tup (((si.trans sj).trans s').sq hd2), T.o_Share.sT⟩
                | 1, hy => cases hy; exact ⟨_, .base (.int _), T.o_Share.sI⟩
                | 2, hy => cases hy; exact ⟨_, .base .non, T.ot_Share_NoneType⟩
                | 3, hy => cases hy; exact ⟨_, .base (.str _), T.o_Share.sS⟩
                | 4, hy => cases hy; exact ⟨_, .base (.lst ((sj.trans s') _ _ ei)), T.ot_Share_list⟩
                | 5, hy => cases hy; exact ⟨_, .base (.bl _), T.ot_Share_bool⟩
                | jj + 6, hy => simp at hy
              walk_at "go"
              refine l_seq (b := true) [.ref ad, .int d.num, .non, .str "1", .ref pi, .bl true] (fun jj σ H' => ∃ (y9 : Option V), σ = [some (.ref a), some (.int (i : Nat)), some (.ref p), some (.int (j : Nat)), some (.ref D), some (.ref pa), some (.ref Dd), some (.ref Ds), y8, y9, none] ∧ Same Hj H') (Sq.lst ej) ⟨_, rfl, Same.refl _⟩ (fun jj σ H' _ ⟨_, _, s'⟩ => s'.sq (Sq.lst ej)) ?_ ?_
              · rintro jj y σ Hk hjj hy ⟨y9, rfl, sk⟩
                have shk := shj.trans sk
                obtain ⟨n, ht, hs⟩ := hty jj y hy _ sk
                have rsk := RShare.mono _ _ _ _ shk rs
                walk_at "go"
                refine w_ix (Sq.lst (shk _ _ es)) (atI_nat hvs) ?_
                walk_at "go"
                refine w_eqRN rsk ht hs ?_
                walk_at "go"
                refine ⟨_, _, rfl, Sm.bl, ?_⟩
                walk_at "go"
                refine w_ix (Sq.lst (shk _ _ es)) (atI_nat hvs) ?_
                walk_at "go"
                refine w_neRN rsk ht hs ?_
                walk_at "go"
                refine ⟨_, _, rfl, Sm.bl, ?_⟩
                walk_at "go"
                exact ⟨_, rfl, sk⟩
              · rintro σ Hk ⟨y9, rfl, sk⟩
                walk_at "go"
                exact ⟨_, _, _, rfl, shj.trans sk⟩
          · rintro σ He ⟨y3, y8, y9, rfl, sh⟩
            walk_at "go"
            refine w_ix (Sq.lst (sh _ _ ebs)) (atI_nat (j := 0) rfl) ?_
            walk_at "go"
            refine w_ix (Sq.tup (sh _ _ h0s)) (atI_nat (j := 0) rfl) ?_
            walk_at "go"
            refine ⟨_, rfl, fun Hz sz => ?_⟩
            walk_at "go"
            exact ⟨_, _, _, _, _, _, _, _, _, rfl, sm.trans (s1.trans ((s1s.trans sh).trans sz))⟩
    · rintro σ H' ⟨y1, y2, y3, y4, y5, y6, y7, y8, y9, rfl, sm⟩
      walk_at "go"
      exact k _

end
theorem all_mk {l : PySem.W.OpenLaw} {w : World} {K : PySem.W.Frag} {h : Heap} {mg : Str → Option Value} {fa CShare CServeError CInvalidNumber CInvalidLetter CNoHouse CNoRequest CNoRoom CNotAlone CNotHeld CTooLarge fInvalidNumber___init__ fgreatest_divisor fShare___init__ fShare___add__ fShare___sub__ fShare___mul__ fShare___eq__ fShare_is_below flesser_of fL_numbers fL_same fL_common fL_least fL_plus fL_by fL_is_share fL_integer fL_fraction fL_refuses fL_is_below fL_pair flaw : Addr} (X : K.In h) (G : h.Ns mainGlobals mg) (hfa : mg "law" = some (.ref fa))
    {odInvalidNumber___init__ anInvalidNumber___init__ odgreatest_divisor angreatest_divisor odShare___init__ anShare___init__ odShare___add__ anShare___add__ odShare___sub__ anShare___sub__ odShare___mul__ anShare___mul__ odShare___eq__ anShare___eq__ odShare_is_below anShare_is_below odlesser_of anlesser_of odL_numbers anL_numbers odL_same anL_same odL_common anL_common odL_least anL_least odL_plus anL_plus odL_by anL_by odL_is_share anL_is_share odL_integer anL_integer odL_fraction anL_fraction odL_refuses anL_refuses odL_is_below anL_is_below odL_pair anL_pair odlaw anlaw : Option Addr} {slInvalidNumber___init__ slgreatest_divisor slShare___init__ slShare___add__ slShare___sub__ slShare___mul__ slShare___eq__ slShare_is_below sllesser_of slL_numbers slL_same slL_common slL_least slL_plus slL_by slL_is_share slL_integer slL_fraction slL_refuses slL_is_below slL_pair sllaw : Array (Option Value)} {ocInvalidNumber___init__ kVInvalidNumber___init__ dcInvalidNumber___init__ pmInvalidNumber___init__ cdInvalidNumber___init__ ctInvalidNumber___init__ ocgreatest_divisor kVgreatest_divisor dcgreatest_divisor pmgreatest_divisor cdgreatest_divisor ctgreatest_divisor ocShare___init__ kVShare___init__ dcShare___init__ pmShare___init__ cdShare___init__ ctShare___init__ ocShare___add__ kVShare___add__ dcShare___add__ pmShare___add__ cdShare___add__ ctShare___add__ ocShare___sub__ kVShare___sub__ dcShare___sub__ pmShare___sub__ cdShare___sub__ ctShare___sub__ ocShare___mul__ kVShare___mul__ dcShare___mul__ pmShare___mul__ cdShare___mul__ ctShare___mul__ ocShare___eq__ kVShare___eq__ dcShare___eq__ pmShare___eq__ cdShare___eq__ ctShare___eq__ ocShare_is_below kVShare_is_below dcShare_is_below pmShare_is_below cdShare_is_below ctShare_is_below oclesser_of kVlesser_of dclesser_of pmlesser_of cdlesser_of ctlesser_of ocL_numbers kVL_numbers dcL_numbers pmL_numbers cdL_numbers ctL_numbers ocL_same kVL_same dcL_same pmL_same cdL_same ctL_same ocL_common kVL_common dcL_common pmL_common cdL_common ctL_common ocL_least kVL_least dcL_least pmL_least cdL_least ctL_least ocL_plus kVL_plus dcL_plus pmL_plus cdL_plus ctL_plus ocL_by kVL_by dcL_by pmL_by cdL_by ctL_by ocL_is_share kVL_is_share dcL_is_share pmL_is_share cdL_is_share ctL_is_share ocL_integer kVL_integer dcL_integer pmL_integer cdL_integer ctL_integer ocL_fraction kVL_fraction dcL_fraction pmL_fraction cdL_fraction ctL_fraction ocL_refuses kVL_refuses dcL_refuses pmL_refuses cdL_refuses ctL_refuses ocL_is_below kVL_is_below dcL_is_below pmL_is_below cdL_is_below ctL_is_below ocL_pair kVL_pair dcL_pair pmL_pair cdL_pair ctL_pair oclaw kVlaw dclaw pmlaw cdlaw ctlaw : Value}
    {nmInvalidNumber qnInvalidNumber : Str} {NInvalidNumber : Addr} {bsInvalidNumber subInvalidNumber : List Value} {snInvalidNumber : List Str} {abInvalidNumber : Bool} {colInvalidNumber : Option Bool} {ddInvalidNumber : Option Addr} {m0InvalidNumber m1InvalidNumber m2InvalidNumber m3InvalidNumber m5InvalidNumber : Option Value}
    (aCShare : PySem.W.nsIn K mainGlobals "Share" = some (some (.ref CShare))) (pgShare : PySem.W.plainGet K CShare Str.empty = true) (hdShare : PySem.W.hasDictIn K CShare = true) (poShare : PySem.W.plainOver K CShare = true) (saShare : PySem.W.findIn K (.ref CShare) "__setattr__" = some (some (.builtin "object.__setattr__"))) (mkShare : PySem.W.makesIn K CShare = true) (kcShare : PySem.W.keepIn K (.ref CShare) = true)
    (nShare_over : PySem.W.findIn K (.ref CShare) "over" = some none)
    (nShare_under : PySem.W.findIn K (.ref CShare) "under" = some none)
    (otShare_NoneType : PySem.W.subIn K (.type "NoneType") (.ref CShare) = some false)
    (otShare_list : PySem.W.subIn K (.type "list") (.ref CShare) = some false)
    (otShare_bool : PySem.W.subIn K (.type "bool") (.ref CShare) = some false)
    (ow1Share : PySem.W.findIn K (.ref CShare) "__class__" = some (some (.builtin "object.__class__"))) (ow2Share : PySem.W.specialIn K (.builtin "object.__class__") "__get__" = some (some (.builtin "getset_descriptor.__get__"))) (ow3Share : PySem.W.takesIn K (.builtin "object.__class__") = some true) (ow4Share : PySem.W.mroIn K CShare (.type "object") = some true) (ow5Share : PySem.W.isClsIn K CShare = true) (ow6Share : PySem.W.typeIn K (.ref CShare) = some (.type "type")) (ow7Share : PySem.W.subIn K (.type "tuple") (.ref CShare) = some false) (ow8Share : PySem.W.subIn K (.type "int") (.ref CShare) = some false) (ow9Share : PySem.W.subIn K (.type "str") (.ref CShare) = some false) (ownShare : PySem.W.findIn K (.ref CShare) "__ne__" = some (some (.builtin "object.__ne__")))
    (aCServeError : PySem.W.nsIn K mainGlobals "ServeError" = some (some (.ref CServeError))) (eiServeError : PySem.W.isClsIn K CServeError = true) (etServeError : PySem.W.typeIn K (.ref CServeError) = some (.type "type")) (ebServeError : PySem.W.subIn K (.ref CServeError) (.type "BaseException") = some true) (ehServeError : PySem.W.hasDictIn K CServeError = true)
    (aCInvalidNumber : PySem.W.nsIn K mainGlobals "InvalidNumber" = some (some (.ref CInvalidNumber))) (eiInvalidNumber : PySem.W.isClsIn K CInvalidNumber = true) (etInvalidNumber : PySem.W.typeIn K (.ref CInvalidNumber) = some (.type "type")) (ebInvalidNumber : PySem.W.subIn K (.ref CInvalidNumber) (.type "BaseException") = some true) (ehInvalidNumber : PySem.W.hasDictIn K CInvalidNumber = true)
    (aCInvalidLetter : PySem.W.nsIn K mainGlobals "InvalidLetter" = some (some (.ref CInvalidLetter))) (eiInvalidLetter : PySem.W.isClsIn K CInvalidLetter = true) (etInvalidLetter : PySem.W.typeIn K (.ref CInvalidLetter) = some (.type "type")) (ebInvalidLetter : PySem.W.subIn K (.ref CInvalidLetter) (.type "BaseException") = some true) (ehInvalidLetter : PySem.W.hasDictIn K CInvalidLetter = true)
    (aCNoHouse : PySem.W.nsIn K mainGlobals "NoHouse" = some (some (.ref CNoHouse))) (eiNoHouse : PySem.W.isClsIn K CNoHouse = true) (etNoHouse : PySem.W.typeIn K (.ref CNoHouse) = some (.type "type")) (ebNoHouse : PySem.W.subIn K (.ref CNoHouse) (.type "BaseException") = some true) (ehNoHouse : PySem.W.hasDictIn K CNoHouse = true)
    (aCNoRequest : PySem.W.nsIn K mainGlobals "NoRequest" = some (some (.ref CNoRequest))) (eiNoRequest : PySem.W.isClsIn K CNoRequest = true) (etNoRequest : PySem.W.typeIn K (.ref CNoRequest) = some (.type "type")) (ebNoRequest : PySem.W.subIn K (.ref CNoRequest) (.type "BaseException") = some true) (ehNoRequest : PySem.W.hasDictIn K CNoRequest = true)
    (aCNoRoom : PySem.W.nsIn K mainGlobals "NoRoom" = some (some (.ref CNoRoom))) (eiNoRoom : PySem.W.isClsIn K CNoRoom = true) (etNoRoom : PySem.W.typeIn K (.ref CNoRoom) = some (.type "type")) (ebNoRoom : PySem.W.subIn K (.ref CNoRoom) (.type "BaseException") = some true) (ehNoRoom : PySem.W.hasDictIn K CNoRoom = true)
    (aCNotAlone : PySem.W.nsIn K mainGlobals "NotAlone" = some (some (.ref CNotAlone))) (eiNotAlone : PySem.W.isClsIn K CNotAlone = true) (etNotAlone : PySem.W.typeIn K (.ref CNotAlone) = some (.type "type")) (ebNotAlone : PySem.W.subIn K (.ref CNotAlone) (.type "BaseException") = some true) (ehNotAlone : PySem.W.hasDictIn K CNotAlone = true)
    (aCNotHeld : PySem.W.nsIn K mainGlobals "NotHeld" = some (some (.ref CNotHeld))) (eiNotHeld : PySem.W.isClsIn K CNotHeld = true) (etNotHeld : PySem.W.typeIn K (.ref CNotHeld) = some (.type "type")) (ebNotHeld : PySem.W.subIn K (.ref CNotHeld) (.type "BaseException") = some true) (ehNotHeld : PySem.W.hasDictIn K CNotHeld = true)
    (aCTooLarge : PySem.W.nsIn K mainGlobals "TooLarge" = some (some (.ref CTooLarge))) (eiTooLarge : PySem.W.isClsIn K CTooLarge = true) (etTooLarge : PySem.W.typeIn K (.ref CTooLarge) = some (.type "type")) (ebTooLarge : PySem.W.subIn K (.ref CTooLarge) (.type "BaseException") = some true) (ehTooLarge : PySem.W.hasDictIn K CTooLarge = true)
    (aInvalidNumber___init__ : PySem.W.findIn K (.ref CInvalidNumber) "__init__" = some (some (.ref fInvalidNumber___init__))) (iInvalidNumber___init__ : PySem.W.isFn K (.ref fInvalidNumber___init__) = true) (lInvalidNumber___init__ : K.lookup fInvalidNumber___init__ = some ⟨ocInvalidNumber___init__, odInvalidNumber___init__, .func (PySem.W.fnOf "__init__" "InvalidNumber.__init__" (defArgs s_InvalidNumber___init__) (defBody s_InvalidNumber___init__) (defScope s_InvalidNumber___init__) .none kVInvalidNumber___init__ dcInvalidNumber___init__ pmInvalidNumber___init__ anInvalidNumber___init__ cdInvalidNumber___init__ ctInvalidNumber___init__), slInvalidNumber___init__⟩) (cInvalidNumber___init__ : PySem.W.codeIn K cdInvalidNumber___init__ "InvalidNumber.__init__" = true) (kInvalidNumber___init__ : PySem.W.keepIn K (.ref fInvalidNumber___init__) = true)
    (agreatest_divisor : PySem.W.nsIn K mainGlobals "greatest_divisor" = some (some (.ref fgreatest_divisor))) (lgreatest_divisor : K.lookup fgreatest_divisor = some ⟨ocgreatest_divisor, odgreatest_divisor, .func (PySem.W.fnOf "greatest_divisor" "greatest_divisor" (defArgs s_greatest_divisor) (defBody s_greatest_divisor) (defScope s_greatest_divisor) .none kVgreatest_divisor dcgreatest_divisor pmgreatest_divisor angreatest_divisor cdgreatest_divisor ctgreatest_divisor), slgreatest_divisor⟩) (cgreatest_divisor : PySem.W.codeIn K cdgreatest_divisor "greatest_divisor" = true) (kgreatest_divisor : PySem.W.keepIn K (.ref fgreatest_divisor) = true)
    (aShare___init__ : PySem.W.findIn K (.ref CShare) "__init__" = some (some (.ref fShare___init__))) (iShare___init__ : PySem.W.isFn K (.ref fShare___init__) = true) (lShare___init__ : K.lookup fShare___init__ = some ⟨ocShare___init__, odShare___init__, .func (PySem.W.fnOf "__init__" "Share.__init__" (defArgs s_Share___init__) (defBody s_Share___init__) (defScope s_Share___init__) .none kVShare___init__ dcShare___init__ pmShare___init__ anShare___init__ cdShare___init__ ctShare___init__), slShare___init__⟩) (cShare___init__ : PySem.W.codeIn K cdShare___init__ "Share.__init__" = true) (kShare___init__ : PySem.W.keepIn K (.ref fShare___init__) = true)
    (aShare___add__ : PySem.W.findIn K (.ref CShare) "__add__" = some (some (.ref fShare___add__))) (iShare___add__ : PySem.W.isFn K (.ref fShare___add__) = true) (lShare___add__ : K.lookup fShare___add__ = some ⟨ocShare___add__, odShare___add__, .func (PySem.W.fnOf "__add__" "Share.__add__" (defArgs s_Share___add__) (defBody s_Share___add__) (defScope s_Share___add__) .none kVShare___add__ dcShare___add__ pmShare___add__ anShare___add__ cdShare___add__ ctShare___add__), slShare___add__⟩) (cShare___add__ : PySem.W.codeIn K cdShare___add__ "Share.__add__" = true) (kShare___add__ : PySem.W.keepIn K (.ref fShare___add__) = true)
    (sfShare : PySem.W.selfFirst K CShare = true)
    (aShare___sub__ : PySem.W.findIn K (.ref CShare) "__sub__" = some (some (.ref fShare___sub__))) (iShare___sub__ : PySem.W.isFn K (.ref fShare___sub__) = true) (lShare___sub__ : K.lookup fShare___sub__ = some ⟨ocShare___sub__, odShare___sub__, .func (PySem.W.fnOf "__sub__" "Share.__sub__" (defArgs s_Share___sub__) (defBody s_Share___sub__) (defScope s_Share___sub__) .none kVShare___sub__ dcShare___sub__ pmShare___sub__ anShare___sub__ cdShare___sub__ ctShare___sub__), slShare___sub__⟩) (cShare___sub__ : PySem.W.codeIn K cdShare___sub__ "Share.__sub__" = true) (kShare___sub__ : PySem.W.keepIn K (.ref fShare___sub__) = true)
    (aShare___mul__ : PySem.W.findIn K (.ref CShare) "__mul__" = some (some (.ref fShare___mul__))) (iShare___mul__ : PySem.W.isFn K (.ref fShare___mul__) = true) (lShare___mul__ : K.lookup fShare___mul__ = some ⟨ocShare___mul__, odShare___mul__, .func (PySem.W.fnOf "__mul__" "Share.__mul__" (defArgs s_Share___mul__) (defBody s_Share___mul__) (defScope s_Share___mul__) .none kVShare___mul__ dcShare___mul__ pmShare___mul__ anShare___mul__ cdShare___mul__ ctShare___mul__), slShare___mul__⟩) (cShare___mul__ : PySem.W.codeIn K cdShare___mul__ "Share.__mul__" = true) (kShare___mul__ : PySem.W.keepIn K (.ref fShare___mul__) = true)
    (aShare___eq__ : PySem.W.findIn K (.ref CShare) "__eq__" = some (some (.ref fShare___eq__))) (iShare___eq__ : PySem.W.isFn K (.ref fShare___eq__) = true) (lShare___eq__ : K.lookup fShare___eq__ = some ⟨ocShare___eq__, odShare___eq__, .func (PySem.W.fnOf "__eq__" "Share.__eq__" (defArgs s_Share___eq__) (defBody s_Share___eq__) (defScope s_Share___eq__) .none kVShare___eq__ dcShare___eq__ pmShare___eq__ anShare___eq__ cdShare___eq__ ctShare___eq__), slShare___eq__⟩) (cShare___eq__ : PySem.W.codeIn K cdShare___eq__ "Share.__eq__" = true) (kShare___eq__ : PySem.W.keepIn K (.ref fShare___eq__) = true)
    (aShare_is_below : PySem.W.findIn K (.ref CShare) "is_below" = some (some (.ref fShare_is_below))) (iShare_is_below : PySem.W.isFn K (.ref fShare_is_below) = true) (lShare_is_below : K.lookup fShare_is_below = some ⟨ocShare_is_below, odShare_is_below, .func (PySem.W.fnOf "is_below" "Share.is_below" (defArgs s_Share_is_below) (defBody s_Share_is_below) (defScope s_Share_is_below) .none kVShare_is_below dcShare_is_below pmShare_is_below anShare_is_below cdShare_is_below ctShare_is_below), slShare_is_below⟩) (cShare_is_below : PySem.W.codeIn K cdShare_is_below "Share.is_below" = true) (kShare_is_below : PySem.W.keepIn K (.ref fShare_is_below) = true)
    (alesser_of : PySem.W.nsIn K mainGlobals "lesser_of" = some (some (.ref flesser_of))) (llesser_of : K.lookup flesser_of = some ⟨oclesser_of, odlesser_of, .func (PySem.W.fnOf "lesser_of" "lesser_of" (defArgs s_lesser_of) (defBody s_lesser_of) (defScope s_lesser_of) .none kVlesser_of dclesser_of pmlesser_of anlesser_of cdlesser_of ctlesser_of), sllesser_of⟩) (clesser_of : PySem.W.codeIn K cdlesser_of "lesser_of" = true) (klesser_of : PySem.W.keepIn K (.ref flesser_of) = true)
    (aL_numbers : PySem.W.nsIn K mainGlobals "_law_numbers" = some (some (.ref fL_numbers))) (lL_numbers : K.lookup fL_numbers = some ⟨ocL_numbers, odL_numbers, .func (PySem.W.fnOf "_law_numbers" "_law_numbers" (defArgs s_L_numbers) (defBody s_L_numbers) (defScope s_L_numbers) .none kVL_numbers dcL_numbers pmL_numbers anL_numbers cdL_numbers ctL_numbers), slL_numbers⟩) (cL_numbers : PySem.W.codeIn K cdL_numbers "_law_numbers" = true) (kL_numbers : PySem.W.keepIn K (.ref fL_numbers) = true)
    (aL_same : PySem.W.nsIn K mainGlobals "_law_same" = some (some (.ref fL_same))) (lL_same : K.lookup fL_same = some ⟨ocL_same, odL_same, .func (PySem.W.fnOf "_law_same" "_law_same" (defArgs s_L_same) (defBody s_L_same) (defScope s_L_same) .none kVL_same dcL_same pmL_same anL_same cdL_same ctL_same), slL_same⟩) (cL_same : PySem.W.codeIn K cdL_same "_law_same" = true) (kL_same : PySem.W.keepIn K (.ref fL_same) = true)
    (aL_common : PySem.W.nsIn K mainGlobals "_law_common" = some (some (.ref fL_common))) (lL_common : K.lookup fL_common = some ⟨ocL_common, odL_common, .func (PySem.W.fnOf "_law_common" "_law_common" (defArgs s_L_common) (defBody s_L_common) (defScope s_L_common) .none kVL_common dcL_common pmL_common anL_common cdL_common ctL_common), slL_common⟩) (cL_common : PySem.W.codeIn K cdL_common "_law_common" = true) (kL_common : PySem.W.keepIn K (.ref fL_common) = true)
    (aL_least : PySem.W.nsIn K mainGlobals "_law_least" = some (some (.ref fL_least))) (lL_least : K.lookup fL_least = some ⟨ocL_least, odL_least, .func (PySem.W.fnOf "_law_least" "_law_least" (defArgs s_L_least) (defBody s_L_least) (defScope s_L_least) .none kVL_least dcL_least pmL_least anL_least cdL_least ctL_least), slL_least⟩) (cL_least : PySem.W.codeIn K cdL_least "_law_least" = true) (kL_least : PySem.W.keepIn K (.ref fL_least) = true)
    (aL_plus : PySem.W.nsIn K mainGlobals "_law_plus" = some (some (.ref fL_plus))) (lL_plus : K.lookup fL_plus = some ⟨ocL_plus, odL_plus, .func (PySem.W.fnOf "_law_plus" "_law_plus" (defArgs s_L_plus) (defBody s_L_plus) (defScope s_L_plus) .none kVL_plus dcL_plus pmL_plus anL_plus cdL_plus ctL_plus), slL_plus⟩) (cL_plus : PySem.W.codeIn K cdL_plus "_law_plus" = true) (kL_plus : PySem.W.keepIn K (.ref fL_plus) = true)
    (aL_by : PySem.W.nsIn K mainGlobals "_law_by" = some (some (.ref fL_by))) (lL_by : K.lookup fL_by = some ⟨ocL_by, odL_by, .func (PySem.W.fnOf "_law_by" "_law_by" (defArgs s_L_by) (defBody s_L_by) (defScope s_L_by) .none kVL_by dcL_by pmL_by anL_by cdL_by ctL_by), slL_by⟩) (cL_by : PySem.W.codeIn K cdL_by "_law_by" = true) (kL_by : PySem.W.keepIn K (.ref fL_by) = true)
    (aL_is_share : PySem.W.nsIn K mainGlobals "_law_is_share" = some (some (.ref fL_is_share))) (lL_is_share : K.lookup fL_is_share = some ⟨ocL_is_share, odL_is_share, .func (PySem.W.fnOf "_law_is_share" "_law_is_share" (defArgs s_L_is_share) (defBody s_L_is_share) (defScope s_L_is_share) .none kVL_is_share dcL_is_share pmL_is_share anL_is_share cdL_is_share ctL_is_share), slL_is_share⟩) (cL_is_share : PySem.W.codeIn K cdL_is_share "_law_is_share" = true) (kL_is_share : PySem.W.keepIn K (.ref fL_is_share) = true)
    (aL_integer : PySem.W.nsIn K mainGlobals "_law_integer" = some (some (.ref fL_integer))) (lL_integer : K.lookup fL_integer = some ⟨ocL_integer, odL_integer, .func (PySem.W.fnOf "_law_integer" "_law_integer" (defArgs s_L_integer) (defBody s_L_integer) (defScope s_L_integer) .none kVL_integer dcL_integer pmL_integer anL_integer cdL_integer ctL_integer), slL_integer⟩) (cL_integer : PySem.W.codeIn K cdL_integer "_law_integer" = true) (kL_integer : PySem.W.keepIn K (.ref fL_integer) = true)
    (aL_fraction : PySem.W.nsIn K mainGlobals "_law_fraction" = some (some (.ref fL_fraction))) (lL_fraction : K.lookup fL_fraction = some ⟨ocL_fraction, odL_fraction, .func (PySem.W.fnOf "_law_fraction" "_law_fraction" (defArgs s_L_fraction) (defBody s_L_fraction) (defScope s_L_fraction) .none kVL_fraction dcL_fraction pmL_fraction anL_fraction cdL_fraction ctL_fraction), slL_fraction⟩) (cL_fraction : PySem.W.codeIn K cdL_fraction "_law_fraction" = true) (kL_fraction : PySem.W.keepIn K (.ref fL_fraction) = true)
    (aL_refuses : PySem.W.nsIn K mainGlobals "_law_refuses" = some (some (.ref fL_refuses))) (lL_refuses : K.lookup fL_refuses = some ⟨ocL_refuses, odL_refuses, .func (PySem.W.fnOf "_law_refuses" "_law_refuses" (defArgs s_L_refuses) (defBody s_L_refuses) (defScope s_L_refuses) .none kVL_refuses dcL_refuses pmL_refuses anL_refuses cdL_refuses ctL_refuses), slL_refuses⟩) (cL_refuses : PySem.W.codeIn K cdL_refuses "_law_refuses" = true) (kL_refuses : PySem.W.keepIn K (.ref fL_refuses) = true)
    (aL_is_below : PySem.W.nsIn K mainGlobals "_law_is_below" = some (some (.ref fL_is_below))) (lL_is_below : K.lookup fL_is_below = some ⟨ocL_is_below, odL_is_below, .func (PySem.W.fnOf "_law_is_below" "_law_is_below" (defArgs s_L_is_below) (defBody s_L_is_below) (defScope s_L_is_below) .none kVL_is_below dcL_is_below pmL_is_below anL_is_below cdL_is_below ctL_is_below), slL_is_below⟩) (cL_is_below : PySem.W.codeIn K cdL_is_below "_law_is_below" = true) (kL_is_below : PySem.W.keepIn K (.ref fL_is_below) = true)
    (aL_pair : PySem.W.nsIn K mainGlobals "_law_pair" = some (some (.ref fL_pair))) (lL_pair : K.lookup fL_pair = some ⟨ocL_pair, odL_pair, .func (PySem.W.fnOf "_law_pair" "_law_pair" (defArgs s_L_pair) (defBody s_L_pair) (defScope s_L_pair) .none kVL_pair dcL_pair pmL_pair anL_pair cdL_pair ctL_pair), slL_pair⟩) (cL_pair : PySem.W.codeIn K cdL_pair "_law_pair" = true) (kL_pair : PySem.W.keepIn K (.ref fL_pair) = true)
    (alaw : PySem.W.nsIn K mainGlobals "law" = some (some (.ref flaw))) (llaw : K.lookup flaw = some ⟨oclaw, odlaw, .func (PySem.W.fnOf "law" "law" (defArgs s_law) (defBody s_law) (defScope s_law) .none kVlaw dclaw pmlaw anlaw cdlaw ctlaw), sllaw⟩) (claw : PySem.W.codeIn K cdlaw "law" = true) (klaw : PySem.W.keepIn K (.ref flaw) = true)
    (xlInvalidNumber : K.lookup CInvalidNumber = some (PySem.excClassObj nmInvalidNumber qnInvalidNumber CInvalidNumber NInvalidNumber bsInvalidNumber [.ref CServeError, .type "ValueError", .type "Exception", .type "BaseException", .type "object"] true snInvalidNumber subInvalidNumber abInvalidNumber colInvalidNumber ddInvalidNumber m0InvalidNumber m1InvalidNumber m2InvalidNumber m3InvalidNumber m5InvalidNumber "ValueError.__new__")) (xaInvalidNumber : PySem.W.findIn K (.ref CInvalidNumber) "__setattr__" = some (some (.builtin "object.__setattr__"))) (xkInvalidNumber : PySem.W.keepIn K (.ref CInvalidNumber) = true) (xtInvalidNumber : PySem.W.typeIn K (.ref fInvalidNumber___init__) = some (.type "function")) (xnInvalidNumber : PySem.W.findIn K (.ref CInvalidNumber) "number" = some none) (xgInvalidNumber : PySem.W.findIn K (.ref CInvalidNumber) "__getattribute__" = some (some (.builtin "BaseException.__getattribute__"))) (xhInvalidNumber : PySem.W.findIn K (.ref CInvalidNumber) "__getattr__" = some none) (xcInvalidNumber : PySem.W.findIn K (.ref CInvalidNumber) "__class__" = some (some (.builtin "object.__class__"))) (xsInvalidNumber : PySem.W.specialIn K (.builtin "object.__class__") "__get__" = some (some (.builtin "getset_descriptor.__get__"))) (xuInvalidNumber : PySem.W.takesIn K (.builtin "object.__class__") = some true) (xmInvalidNumber : PySem.W.mroIn K CInvalidNumber (.type "object") = some true) (xvInvalidNumber : PySem.W.subIn K (.ref CInvalidNumber) (.type "ValueError") = some true)
    (suInvalidNumber_ServeError : PySem.W.subIn K (.ref CInvalidNumber) (.ref CServeError) = some true)
    (suInvalidNumber_InvalidNumber : PySem.W.subIn K (.ref CInvalidNumber) (.ref CInvalidNumber) = some true)
    (suInvalidNumber_InvalidLetter : PySem.W.subIn K (.ref CInvalidNumber) (.ref CInvalidLetter) = some false)
    (suInvalidNumber_NoHouse : PySem.W.subIn K (.ref CInvalidNumber) (.ref CNoHouse) = some false)
    (suInvalidNumber_NoRequest : PySem.W.subIn K (.ref CInvalidNumber) (.ref CNoRequest) = some false)
    (suInvalidNumber_NoRoom : PySem.W.subIn K (.ref CInvalidNumber) (.ref CNoRoom) = some false)
    (suInvalidNumber_NotAlone : PySem.W.subIn K (.ref CInvalidNumber) (.ref CNotAlone) = some false)
    (suInvalidNumber_NotHeld : PySem.W.subIn K (.ref CInvalidNumber) (.ref CNotHeld) = some false)
    (suInvalidNumber_TooLarge : PySem.W.subIn K (.ref CInvalidNumber) (.ref CTooLarge) = some false)
    (zValueError : PySem.W.nsIn K mainGlobals "ValueError" = some none)
    (zabs : PySem.W.nsIn K mainGlobals "abs" = some none)
    (zbool : PySem.W.nsIn K mainGlobals "bool" = some none)
    (zint : PySem.W.nsIn K mainGlobals "int" = some none)
    (zisinstance : PySem.W.nsIn K mainGlobals "isinstance" = some none)
    (zlen : PySem.W.nsIn K mainGlobals "len" = some none)
    (zmax : PySem.W.nsIn K mainGlobals "max" = some none)
    (zmin : PySem.W.nsIn K mainGlobals "min" = some none)
    (zrange : PySem.W.nsIn K mainGlobals "range" = some none)
    (zrepr : PySem.W.nsIn K mainGlobals "repr" = some none)
    (zstr : PySem.W.nsIn K mainGlobals "str" = some none)
    (ztuple : PySem.W.nsIn K mainGlobals "tuple" = some none)
    : ∃ fd : FuncData, (∀ (s : Shared) (v : Value), BindsTo s fd ⟨[v], []⟩ [("_law_script", v)]) ∧ ∀ base : Heap, K.In base → base.Ns mainGlobals mg → FnOk l.prog w K mg base CX0 7 fa fd ["_law_script"] (sp_law K) := by
  have e := hfa.symm.trans (PySem.W.mg_of X G alaw)
  cases e
  have FInvalidNumber___init__ := fun_mk (st := s_InvalidNumber___init__) lInvalidNumber___init__ cInvalidNumber___init__ kInvalidNumber___init__
  have bInvalidNumber___init__ := FInvalidNumber___init__.binds (ps := ["self", "number"]) fun _ _ _ _ _ _ us hl => match us, hl with | [_, _], _ => rfl
  have Fgreatest_divisor := fun_mk (st := s_greatest_divisor) lgreatest_divisor cgreatest_divisor kgreatest_divisor
  have bgreatest_divisor := Fgreatest_divisor.binds (ps := ["one", "two"]) fun _ _ _ _ _ _ us hl => match us, hl with | [_, _], _ => rfl
  have FShare___init__ := fun_mk (st := s_Share___init__) lShare___init__ cShare___init__ kShare___init__
  have bShare___init__ := FShare___init__.binds (ps := ["self", "over", "under"]) fun _ _ _ _ _ _ us hl => match us, hl with | [_, _, _], _ => rfl
  have FShare___add__ := fun_mk (st := s_Share___add__) lShare___add__ cShare___add__ kShare___add__
  have bShare___add__ := FShare___add__.binds (ps := ["self", "other"]) fun _ _ _ _ _ _ us hl => match us, hl with | [_, _], _ => rfl
  have FShare___sub__ := fun_mk (st := s_Share___sub__) lShare___sub__ cShare___sub__ kShare___sub__
  have bShare___sub__ := FShare___sub__.binds (ps := ["self", "other"]) fun _ _ _ _ _ _ us hl => match us, hl with | [_, _], _ => rfl
  have FShare___mul__ := fun_mk (st := s_Share___mul__) lShare___mul__ cShare___mul__ kShare___mul__
  have bShare___mul__ := FShare___mul__.binds (ps := ["self", "other"]) fun _ _ _ _ _ _ us hl => match us, hl with | [_, _], _ => rfl
  have FShare___eq__ := fun_mk (st := s_Share___eq__) lShare___eq__ cShare___eq__ kShare___eq__
  have bShare___eq__ := FShare___eq__.binds (ps := ["self", "other"]) fun _ _ _ _ _ _ us hl => match us, hl with | [_, _], _ => rfl
  have FShare_is_below := fun_mk (st := s_Share_is_below) lShare_is_below cShare_is_below kShare_is_below
  have bShare_is_below := FShare_is_below.binds (ps := ["self", "other"]) fun _ _ _ _ _ _ us hl => match us, hl with | [_, _], _ => rfl
  have Flesser_of := fun_mk (st := s_lesser_of) llesser_of clesser_of klesser_of
  have blesser_of := Flesser_of.binds (ps := ["share", "other"]) fun _ _ _ _ _ _ us hl => match us, hl with | [_, _], _ => rfl
  have FL_numbers := fun_mk (st := s_L_numbers) lL_numbers cL_numbers kL_numbers
  have bL_numbers := FL_numbers.binds (ps := ["_law_cell", "_law_at", "_law_many"]) fun _ _ _ _ _ _ us hl => match us, hl with | [_, _, _], _ => rfl
  have FL_same := fun_mk (st := s_L_same) lL_same cL_same kL_same
  have bL_same := FL_same.binds (ps := ["_law_actual", "_law_expected"]) fun _ _ _ _ _ _ us hl => match us, hl with | [_, _], _ => rfl
  have FL_common := fun_mk (st := s_L_common) lL_common cL_common kL_common
  have bL_common := FL_common.binds (ps := ["_law_one", "_law_other"]) fun _ _ _ _ _ _ us hl => match us, hl with | [_, _], _ => rfl
  have FL_least := fun_mk (st := s_L_least) lL_least cL_least kL_least
  have bL_least := FL_least.binds (ps := ["_law_over", "_law_under"]) fun _ _ _ _ _ _ us hl => match us, hl with | [_, _], _ => rfl
  have FL_plus := fun_mk (st := s_L_plus) lL_plus cL_plus kL_plus
  have bL_plus := FL_plus.binds (ps := ["_law_one", "_law_other"]) fun _ _ _ _ _ _ us hl => match us, hl with | [_, _], _ => rfl
  have FL_by := fun_mk (st := s_L_by) lL_by cL_by kL_by
  have bL_by := FL_by.binds (ps := ["_law_one", "_law_other"]) fun _ _ _ _ _ _ us hl => match us, hl with | [_, _], _ => rfl
  have FL_is_share := fun_mk (st := s_L_is_share) lL_is_share cL_is_share kL_is_share
  have bL_is_share := FL_is_share.binds (ps := ["_law_told", "_law_due"]) fun _ _ _ _ _ _ us hl => match us, hl with | [_, _], _ => rfl
  have FL_integer := fun_mk (st := s_L_integer) lL_integer cL_integer kL_integer
  have bL_integer := FL_integer.binds (ps := ["_law_numbers_here", "_law_k"]) fun _ _ _ _ _ _ us hl => match us, hl with | [_, _], _ => rfl
  have FL_fraction := fun_mk (st := s_L_fraction) lL_fraction cL_fraction kL_fraction
  have bL_fraction := FL_fraction.binds (ps := ["_law_numbers_here", "_law_k"]) fun _ _ _ _ _ _ us hl => match us, hl with | [_, _], _ => rfl
  have FL_refuses := fun_mk (st := s_L_refuses) lL_refuses cL_refuses kL_refuses
  have bL_refuses := FL_refuses.binds (ps := ["_law_over"]) fun _ _ _ _ _ _ us hl => match us, hl with | [_], _ => rfl
  have FL_is_below := fun_mk (st := s_L_is_below) lL_is_below cL_is_below kL_is_below
  have bL_is_below := FL_is_below.binds (ps := ["_law_one", "_law_other"]) fun _ _ _ _ _ _ us hl => match us, hl with | [_, _], _ => rfl
  have FL_pair := fun_mk (st := s_L_pair) lL_pair cL_pair kL_pair
  have bL_pair := FL_pair.binds (ps := ["_law_share", "_law_due", "_law_second", "_law_other"]) fun _ _ _ _ _ _ us hl => match us, hl with | [_, _, _, _], _ => rfl
  have Flaw := fun_mk (st := s_law) llaw claw klaw
  have blaw := Flaw.binds (ps := ["_law_script"]) fun _ _ _ _ _ _ us hl => match us, hl with | [_], _ => rfl
  let T : Txt K mg := { c_Share := _, C_Share := ⟨pgShare, hdShare, poShare, saShare⟩, gc_Share := PySem.W.mg_of X G aCShare, n_Share_over := nShare_over, n_Share_under := nShare_under, ot_Share_NoneType := otShare_NoneType, ot_Share_list := otShare_list, ot_Share_bool := otShare_bool, o_Share := ⟨ow1Share, ow2Share, ow3Share, ow4Share, ow5Share, ow6Share, ow7Share, ow8Share, ow9Share⟩, c_ServeError := _, gc_ServeError := PySem.W.mg_of X G aCServeError, er_ServeError := ⟨eiServeError, etServeError, ebServeError, ehServeError⟩, c_InvalidNumber := _, gc_InvalidNumber := PySem.W.mg_of X G aCInvalidNumber, er_InvalidNumber := ⟨eiInvalidNumber, etInvalidNumber, ebInvalidNumber, ehInvalidNumber⟩, c_InvalidLetter := _, gc_InvalidLetter := PySem.W.mg_of X G aCInvalidLetter, er_InvalidLetter := ⟨eiInvalidLetter, etInvalidLetter, ebInvalidLetter, ehInvalidLetter⟩, c_NoHouse := _, gc_NoHouse := PySem.W.mg_of X G aCNoHouse, er_NoHouse := ⟨eiNoHouse, etNoHouse, ebNoHouse, ehNoHouse⟩, c_NoRequest := _, gc_NoRequest := PySem.W.mg_of X G aCNoRequest, er_NoRequest := ⟨eiNoRequest, etNoRequest, ebNoRequest, ehNoRequest⟩, c_NoRoom := _, gc_NoRoom := PySem.W.mg_of X G aCNoRoom, er_NoRoom := ⟨eiNoRoom, etNoRoom, ebNoRoom, ehNoRoom⟩, c_NotAlone := _, gc_NotAlone := PySem.W.mg_of X G aCNotAlone, er_NotAlone := ⟨eiNotAlone, etNotAlone, ebNotAlone, ehNotAlone⟩, c_NotHeld := _, gc_NotHeld := PySem.W.mg_of X G aCNotHeld, er_NotHeld := ⟨eiNotHeld, etNotHeld, ebNotHeld, ehNotHeld⟩, c_TooLarge := _, gc_TooLarge := PySem.W.mg_of X G aCTooLarge, er_TooLarge := ⟨eiTooLarge, etTooLarge, ebTooLarge, ehTooLarge⟩, a_InvalidNumber___init__ := _, d_InvalidNumber___init__ := _, F_InvalidNumber___init__ := FInvalidNumber___init__, b_InvalidNumber___init__ := bInvalidNumber___init__, a_greatest_divisor := _, d_greatest_divisor := _, F_greatest_divisor := Fgreatest_divisor, b_greatest_divisor := bgreatest_divisor, g_greatest_divisor := PySem.W.mg_of X G agreatest_divisor, a_Share___init__ := _, d_Share___init__ := _, F_Share___init__ := FShare___init__, b_Share___init__ := bShare___init__, M_Share := ⟨mkShare, aShare___init__, iShare___init__, kcShare⟩, a_Share___add__ := _, d_Share___add__ := _, F_Share___add__ := FShare___add__, b_Share___add__ := bShare___add__, m_Share___add__ := ⟨aShare___add__, iShare___add__, kShare___add__⟩, bo_Share___add__ := ⟨aShare___add__, iShare___add__, sfShare⟩, a_Share___sub__ := _, d_Share___sub__ := _, F_Share___sub__ := FShare___sub__, b_Share___sub__ := bShare___sub__, m_Share___sub__ := ⟨aShare___sub__, iShare___sub__, kShare___sub__⟩, bo_Share___sub__ := ⟨aShare___sub__, iShare___sub__, sfShare⟩, a_Share___mul__ := _, d_Share___mul__ := _, F_Share___mul__ := FShare___mul__, b_Share___mul__ := bShare___mul__, m_Share___mul__ := ⟨aShare___mul__, iShare___mul__, kShare___mul__⟩, bo_Share___mul__ := ⟨aShare___mul__, iShare___mul__, sfShare⟩, a_Share___eq__ := _, d_Share___eq__ := _, F_Share___eq__ := FShare___eq__, b_Share___eq__ := bShare___eq__, m_Share___eq__ := ⟨aShare___eq__, iShare___eq__, kShare___eq__⟩, e_Share := ⟨aShare___eq__, iShare___eq__, ownShare, ow4Share⟩, a_Share_is_below := _, d_Share_is_below := _, F_Share_is_below := FShare_is_below, b_Share_is_below := bShare_is_below, m_Share_is_below := ⟨aShare_is_below, iShare_is_below, kShare_is_below⟩, a_lesser_of := _, d_lesser_of := _, F_lesser_of := Flesser_of, b_lesser_of := blesser_of, g_lesser_of := PySem.W.mg_of X G alesser_of, a_L_numbers := _, d_L_numbers := _, F_L_numbers := FL_numbers, b_L_numbers := bL_numbers, g_L_numbers := PySem.W.mg_of X G aL_numbers, a_L_same := _, d_L_same := _, F_L_same := FL_same, b_L_same := bL_same, g_L_same := PySem.W.mg_of X G aL_same, a_L_common := _, d_L_common := _, F_L_common := FL_common, b_L_common := bL_common, g_L_common := PySem.W.mg_of X G aL_common, a_L_least := _, d_L_least := _, F_L_least := FL_least, b_L_least := bL_least, g_L_least := PySem.W.mg_of X G aL_least, a_L_plus := _, d_L_plus := _, F_L_plus := FL_plus, b_L_plus := bL_plus, g_L_plus := PySem.W.mg_of X G aL_plus, a_L_by := _, d_L_by := _, F_L_by := FL_by, b_L_by := bL_by, g_L_by := PySem.W.mg_of X G aL_by, a_L_is_share := _, d_L_is_share := _, F_L_is_share := FL_is_share, b_L_is_share := bL_is_share, g_L_is_share := PySem.W.mg_of X G aL_is_share, a_L_integer := _, d_L_integer := _, F_L_integer := FL_integer, b_L_integer := bL_integer, g_L_integer := PySem.W.mg_of X G aL_integer, a_L_fraction := _, d_L_fraction := _, F_L_fraction := FL_fraction, b_L_fraction := bL_fraction, g_L_fraction := PySem.W.mg_of X G aL_fraction, a_L_refuses := _, d_L_refuses := _, F_L_refuses := FL_refuses, b_L_refuses := bL_refuses, g_L_refuses := PySem.W.mg_of X G aL_refuses, a_L_is_below := _, d_L_is_below := _, F_L_is_below := FL_is_below, b_L_is_below := bL_is_below, g_L_is_below := PySem.W.mg_of X G aL_is_below, a_L_pair := _, d_L_pair := _, F_L_pair := FL_pair, b_L_pair := bL_pair, g_L_pair := PySem.W.mg_of X G aL_pair, a_law := _, d_law := _, F_law := Flaw, b_law := blaw, g_law := PySem.W.mg_of X G alaw, ox_InvalidNumber := ⟨⟨_, _, _, _, _, _, _, _, _, _, _, _, _, _, _, xlInvalidNumber, rfl⟩, xaInvalidNumber, ebInvalidNumber, etInvalidNumber, xkInvalidNumber⟩, ic_InvalidNumber := aInvalidNumber___init__, ti_InvalidNumber := xtInvalidNumber, nf_InvalidNumber := xnInvalidNumber, xf_InvalidNumber := ⟨xgInvalidNumber, xhInvalidNumber, ebInvalidNumber, ehInvalidNumber⟩, ec_InvalidNumber := ⟨xgInvalidNumber, xhInvalidNumber, ebInvalidNumber, ehInvalidNumber, xcInvalidNumber, xsInvalidNumber, xuInvalidNumber, xmInvalidNumber⟩, sv_InvalidNumber := xvInvalidNumber, sub_InvalidNumber_ServeError := suInvalidNumber_ServeError, sub_InvalidNumber_InvalidNumber := suInvalidNumber_InvalidNumber, sub_InvalidNumber_InvalidLetter := suInvalidNumber_InvalidLetter, sub_InvalidNumber_NoHouse := suInvalidNumber_NoHouse, sub_InvalidNumber_NoRequest := suInvalidNumber_NoRequest, sub_InvalidNumber_NoRoom := suInvalidNumber_NoRoom, sub_InvalidNumber_NotAlone := suInvalidNumber_NotAlone, sub_InvalidNumber_NotHeld := suInvalidNumber_NotHeld, sub_InvalidNumber_TooLarge := suInvalidNumber_TooLarge, z_ValueError := PySem.W.mg_none_of X G zValueError, z_abs := PySem.W.mg_none_of X G zabs, z_bool := PySem.W.mg_none_of X G zbool, z_int := PySem.W.mg_none_of X G zint, z_isinstance := PySem.W.mg_none_of X G zisinstance, z_len := PySem.W.mg_none_of X G zlen, z_max := PySem.W.mg_none_of X G zmax, z_min := PySem.W.mg_none_of X G zmin, z_range := PySem.W.mg_none_of X G zrange, z_repr := PySem.W.mg_none_of X G zrepr, z_str := PySem.W.mg_none_of X G zstr, z_tuple := PySem.W.mg_none_of X G ztuple }
  exact ⟨_, fun s v => .of_eq rfl, fun base _ _ => ok_law (P := l.prog) (w := w) (base := base) T⟩
theorem walk {l : PySem.W.OpenLaw} {q : Program} {loose : List Str} {XP : (Str → Option Value) → Heap → Prop} {YP : World → Heap → Prop} {d : DefRec} {K : Params → PySem.W.Frag} (hn : l.most = some 63) (hdf : d.params.defaults = [])
    (hY : ∀ (w : World) (h : Heap), YP w h → (K w.params).In h)
    (F : ∀ (w : World) (mg : Str → Option Value) (fa : Addr) (h : Heap), (K w.params).In h → h.Ns mainGlobals mg → mg d.name = some (.ref fa) →
      ∃ fd : FuncData, (∀ (s : Shared) (u : Value), BindsTo s fd ⟨[u], []⟩ [("_law_script", u)]) ∧ ∀ base : Heap, (K w.params).In base → base.Ns mainGlobals mg → FnOk l.prog w (K w.params) mg base CX0 7 fa fd ["_law_script"] (sp_law (K w.params))) :
    PySem.W.WalkO q loose XP YP l.row.toRowW d [] (fun f vs => PySem.call f vs) :=
  L2.walk_of (n := 63) (k := 7) (x := "_law_script") (CX := fun _ => CX0) (sp := fun w => sp_law (K w.params)) hn (by decide) hdf ⟨rfl, by decide, by decide⟩ hY F (fun _ _ a ns hl _ hS => ⟨a, ns, rfl, hS, hl, fun _ => rfl⟩) fun _ _ _ _ _ z => z
end My

open PySem PySem.W PyProof.Rows
set_option maxRecDepth 100000 in
set_option maxHeartbeats 0 in
theorem PySem.Challenge.cw_servedalone_k58_shares_holds : PySem.Challenge.rw_servedalone_k58_shares.Holds := by
  w_on; o_law; k_head; (case hw => w_witness2)
  k_fill
  refine My.walk (l := PySem.Challenge.rw_servedalone_k58_shares) rfl rfl (fun w h Y => PySem.W.kIn_of Y) ?F
  case F =>
    intro w mg fa h KX G hmg
    refine' My.all_mk KX G hmg ?aCShare ?pgShare ?hdShare ?poShare ?saShare ?mkShare ?kcShare ?nShare_over ?nShare_under ?otShare_NoneType ?otShare_list ?otShare_bool ?ow1Share ?ow2Share ?ow3Share ?ow4Share ?ow5Share ?ow6Share ?ow7Share ?ow8Share ?ow9Share ?ownShare ?aCServeError ?eiServeError ?etServeError ?ebServeError ?ehServeError ?aCInvalidNumber ?eiInvalidNumber ?etInvalidNumber ?ebInvalidNumber ?ehInvalidNumber ?aCInvalidLetter ?eiInvalidLetter ?etInvalidLetter ?ebInvalidLetter ?ehInvalidLetter ?aCNoHouse ?eiNoHouse ?etNoHouse ?ebNoHouse ?ehNoHouse ?aCNoRequest ?eiNoRequest ?etNoRequest ?ebNoRequest ?ehNoRequest ?aCNoRoom ?eiNoRoom ?etNoRoom ?ebNoRoom ?ehNoRoom ?aCNotAlone ?eiNotAlone ?etNotAlone ?ebNotAlone ?ehNotAlone ?aCNotHeld ?eiNotHeld ?etNotHeld ?ebNotHeld ?ehNotHeld ?aCTooLarge ?eiTooLarge ?etTooLarge ?ebTooLarge ?ehTooLarge ?aInvalidNumber___init__ ?iInvalidNumber___init__ ?lInvalidNumber___init__ ?cInvalidNumber___init__ ?kInvalidNumber___init__ ?agreatest_divisor ?lgreatest_divisor ?cgreatest_divisor ?kgreatest_divisor ?aShare___init__ ?iShare___init__ ?lShare___init__ ?cShare___init__ ?kShare___init__ ?aShare___add__ ?iShare___add__ ?lShare___add__ ?cShare___add__ ?kShare___add__ ?sfShare ?aShare___sub__ ?iShare___sub__ ?lShare___sub__ ?cShare___sub__ ?kShare___sub__ ?aShare___mul__ ?iShare___mul__ ?lShare___mul__ ?cShare___mul__ ?kShare___mul__ ?aShare___eq__ ?iShare___eq__ ?lShare___eq__ ?cShare___eq__ ?kShare___eq__ ?aShare_is_below ?iShare_is_below ?lShare_is_below ?cShare_is_below ?kShare_is_below ?alesser_of ?llesser_of ?clesser_of ?klesser_of ?aL_numbers ?lL_numbers ?cL_numbers ?kL_numbers ?aL_same ?lL_same ?cL_same ?kL_same ?aL_common ?lL_common ?cL_common ?kL_common ?aL_least ?lL_least ?cL_least ?kL_least ?aL_plus ?lL_plus ?cL_plus ?kL_plus ?aL_by ?lL_by ?cL_by ?kL_by ?aL_is_share ?lL_is_share ?cL_is_share ?kL_is_share ?aL_integer ?lL_integer ?cL_integer ?kL_integer ?aL_fraction ?lL_fraction ?cL_fraction ?kL_fraction ?aL_refuses ?lL_refuses ?cL_refuses ?kL_refuses ?aL_is_below ?lL_is_below ?cL_is_below ?kL_is_below ?aL_pair ?lL_pair ?cL_pair ?kL_pair ?alaw ?llaw ?claw ?klaw ?xlInvalidNumber ?xaInvalidNumber ?xkInvalidNumber ?xtInvalidNumber ?xnInvalidNumber ?xgInvalidNumber ?xhInvalidNumber ?xcInvalidNumber ?xsInvalidNumber ?xuInvalidNumber ?xmInvalidNumber ?xvInvalidNumber ?suInvalidNumber_ServeError ?suInvalidNumber_InvalidNumber ?suInvalidNumber_InvalidLetter ?suInvalidNumber_NoHouse ?suInvalidNumber_NoRequest ?suInvalidNumber_NoRoom ?suInvalidNumber_NotAlone ?suInvalidNumber_NotHeld ?suInvalidNumber_TooLarge ?zValueError ?zabs ?zbool ?zint ?zisinstance ?zlen ?zmax ?zmin ?zrange ?zrepr ?zstr ?ztuple
    (case aCShare => k_is)
    (case pgShare => k_is)
    (case hdShare => k_is)
    (case poShare => k_is)
    (case saShare => k_is)
    (case mkShare => k_is)
    (case kcShare => k_is)
    (case nShare_over => k_is)
    (case nShare_under => k_is)
    (case otShare_NoneType => k_is)
    (case otShare_list => k_is)
    (case otShare_bool => k_is)
    (case ow1Share => k_is)
    (case ow2Share => k_is)
    (case ow3Share => k_is)
    (case ow4Share => k_is)
    (case ow5Share => k_is)
    (case ow6Share => k_is)
    (case ow7Share => k_is)
    (case ow8Share => k_is)
    (case ow9Share => k_is)
    (case ownShare => k_is)
    (case aCServeError => k_is)
    (case eiServeError => k_is)
    (case etServeError => k_is)
    (case ebServeError => k_is)
    (case ehServeError => k_is)
    (case aCInvalidNumber => k_is)
    (case eiInvalidNumber => k_is)
    (case etInvalidNumber => k_is)
    (case ebInvalidNumber => k_is)
    (case ehInvalidNumber => k_is)
    (case aCInvalidLetter => k_is)
    (case eiInvalidLetter => k_is)
    (case etInvalidLetter => k_is)
    (case ebInvalidLetter => k_is)
    (case ehInvalidLetter => k_is)
    (case aCNoHouse => k_is)
    (case eiNoHouse => k_is)
    (case etNoHouse => k_is)
    (case ebNoHouse => k_is)
    (case ehNoHouse => k_is)
    (case aCNoRequest => k_is)
    (case eiNoRequest => k_is)
    (case etNoRequest => k_is)
    (case ebNoRequest => k_is)
    (case ehNoRequest => k_is)
    (case aCNoRoom => k_is)
    (case eiNoRoom => k_is)
    (case etNoRoom => k_is)
    (case ebNoRoom => k_is)
    (case ehNoRoom => k_is)
    (case aCNotAlone => k_is)
    (case eiNotAlone => k_is)
    (case etNotAlone => k_is)
    (case ebNotAlone => k_is)
    (case ehNotAlone => k_is)
    (case aCNotHeld => k_is)
    (case eiNotHeld => k_is)
    (case etNotHeld => k_is)
    (case ebNotHeld => k_is)
    (case ehNotHeld => k_is)
    (case aCTooLarge => k_is)
    (case eiTooLarge => k_is)
    (case etTooLarge => k_is)
    (case ebTooLarge => k_is)
    (case ehTooLarge => k_is)
    (case aInvalidNumber___init__ => k_is)
    (case iInvalidNumber___init__ => k_is)
    (case lInvalidNumber___init__ => k_is)
    (case cInvalidNumber___init__ => k_is)
    (case kInvalidNumber___init__ => k_is)
    (case agreatest_divisor => k_is)
    (case lgreatest_divisor => k_is)
    (case cgreatest_divisor => k_is)
    (case kgreatest_divisor => k_is)
    (case aShare___init__ => k_is)
    (case iShare___init__ => k_is)
    (case lShare___init__ => k_is)
    (case cShare___init__ => k_is)
    (case kShare___init__ => k_is)
    (case aShare___add__ => k_is)
    (case iShare___add__ => k_is)
    (case lShare___add__ => k_is)
    (case cShare___add__ => k_is)
    (case kShare___add__ => k_is)
    (case sfShare => k_is)
    (case aShare___sub__ => k_is)
    (case iShare___sub__ => k_is)
    (case lShare___sub__ => k_is)
    (case cShare___sub__ => k_is)
    (case kShare___sub__ => k_is)
    (case aShare___mul__ => k_is)
    (case iShare___mul__ => k_is)
    (case lShare___mul__ => k_is)
    (case cShare___mul__ => k_is)
    (case kShare___mul__ => k_is)
    (case aShare___eq__ => k_is)
    (case iShare___eq__ => k_is)
    (case lShare___eq__ => k_is)
    (case cShare___eq__ => k_is)
    (case kShare___eq__ => k_is)
    (case aShare_is_below => k_is)
    (case iShare_is_below => k_is)
    (case lShare_is_below => k_is)
    (case cShare_is_below => k_is)
    (case kShare_is_below => k_is)
    (case alesser_of => k_is)
    (case llesser_of => k_is)
    (case clesser_of => k_is)
    (case klesser_of => k_is)
    (case aL_numbers => k_is)
    (case lL_numbers => k_is)
    (case cL_numbers => k_is)
    (case kL_numbers => k_is)
    (case aL_same => k_is)
    (case lL_same => k_is)
    (case cL_same => k_is)
    (case kL_same => k_is)
    (case aL_common => k_is)
    (case lL_common => k_is)
    (case cL_common => k_is)
    (case kL_common => k_is)
    (case aL_least => k_is)
    (case lL_least => k_is)
    (case cL_least => k_is)
    (case kL_least => k_is)
    (case aL_plus => k_is)
    (case lL_plus => k_is)
    (case cL_plus => k_is)
    (case kL_plus => k_is)
    (case aL_by => k_is)
    (case lL_by => k_is)
    (case cL_by => k_is)
    (case kL_by => k_is)
    (case aL_is_share => k_is)
    (case lL_is_share => k_is)
    (case cL_is_share => k_is)
    (case kL_is_share => k_is)
    (case aL_integer => k_is)
    (case lL_integer => k_is)
    (case cL_integer => k_is)
    (case kL_integer => k_is)
    (case aL_fraction => k_is)
    (case lL_fraction => k_is)
    (case cL_fraction => k_is)
    (case kL_fraction => k_is)
    (case aL_refuses => k_is)
    (case lL_refuses => k_is)
    (case cL_refuses => k_is)
    (case kL_refuses => k_is)
    (case aL_is_below => k_is)
    (case lL_is_below => k_is)
    (case cL_is_below => k_is)
    (case kL_is_below => k_is)
    (case aL_pair => k_is)
    (case lL_pair => k_is)
    (case cL_pair => k_is)
    (case kL_pair => k_is)
    (case alaw => k_is)
    (case llaw => k_is)
    (case claw => k_is)
    (case klaw => k_is)
    (case xlInvalidNumber => k_is)
    (case xaInvalidNumber => k_is)
    (case xkInvalidNumber => k_is)
    (case xtInvalidNumber => k_is)
    (case xnInvalidNumber => k_is)
    (case xgInvalidNumber => k_is)
    (case xhInvalidNumber => k_is)
    (case xcInvalidNumber => k_is)
    (case xsInvalidNumber => k_is)
    (case xuInvalidNumber => k_is)
    (case xmInvalidNumber => k_is)
    (case xvInvalidNumber => k_is)
    (case suInvalidNumber_ServeError => k_is)
    (case suInvalidNumber_InvalidNumber => k_is)
    (case suInvalidNumber_InvalidLetter => k_is)
    (case suInvalidNumber_NoHouse => k_is)
    (case suInvalidNumber_NoRequest => k_is)
    (case suInvalidNumber_NoRoom => k_is)
    (case suInvalidNumber_NotAlone => k_is)
    (case suInvalidNumber_NotHeld => k_is)
    (case suInvalidNumber_TooLarge => k_is)
    (case zValueError => k_is)
    (case zabs => k_is)
    (case zbool => k_is)
    (case zint => k_is)
    (case zisinstance => k_is)
    (case zlen => k_is)
    (case zmax => k_is)
    (case zmin => k_is)
    (case zrange => k_is)
    (case zrepr => k_is)
    (case zstr => k_is)
    (case ztuple => k_is)
#print axioms PySem.Challenge.cw_servedalone_k58_shares_holds
