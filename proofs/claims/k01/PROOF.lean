import PyProof.Rows.All
import Wide.All
import OpenK.AllK
import Wide.FinOn
import HandS.ForMost
import HandS.Walk
import HandS.IsInst
import HandS.Evl
import HandS.Property
import HandS.Conv
import HandS.TupAny
import HandS.MakeKwOnly
import HandS.Defaults
import HandS.ExcInit
import HandS.ExcField
import HandS.ExcIs
import HandS.ExcOwn
import HandS.WordsExc
import HandS.RaiseMore
import HandS.HotCalls
import PyProof.ReprRoads
import PyProof.ReprBulk
import PyProof.InstNe
import KE.KTupSum
import KE.GoesMore
import KE.GoesEnum
import KE.GoesZip
import PySem.Challenge.RW_servedalone_k01_rows_of_a_net
set_option Elab.async false
set_option linter.all false
set_option maxRecDepth 100000
set_option maxHeartbeats 4000000
namespace L2
open PySem PySem.Spec PyProof.Rows

/-! ### own rules: either of two readings; sums, enumerate and walks of lists or tuples -/
theorem PI.or {X : Cx} {tg iter : Expr} {w1 w2 : TI} (h1 : PI X tg iter w1) (h2 : PI X tg iter w2) : PI X tg iter (fun σ H R => w1 σ H R ∨ w2 σ H R) := by
  refine ⟨fun pins s σ H R I h => ?_⟩
  rcases h with h | h
  · exact h1.run pins s σ H R I h
  · exact h2.run pins s σ H R I h

section
variable {X : Cx}
def rAddG (K : PySem.W.Frag) : R2 := fun x y H Q => (rI0 fun i j => .int (i + j)) x y H Q ∨ rCatT K x y H Q ∨ rCat x y H Q
theorem op_addG : OpR X (binaryOp .Add) (rAddG X.K) := op_add.or (op_catT.or op_cat)
def rEqG (K : PySem.W.Frag) : R2 := fun x y H Q => rEq x y H Q ∨ rEqD K x y H Q
def rNeG (K : PySem.W.Frag) : R2 := fun x y H Q => rNe x y H Q ∨ rNeD K x y H Q
theorem op_eqG (hu : X.A.units + 64 < cLine) : OpR X (compareOp .Eq) (rEqG X.K) := op_eq.or (op_eqD hu)
theorem op_neG (hu : X.A.units + 64 < cLine) : OpR X (compareOp .NotEq) (rNeG X.K) := op_ne.or (op_neD hu)
def rSlG (K : PySem.W.Frag) : V → Option Int → Option Int → Hp → VK → Prop := fun x lo hi H Q => rSlL K x lo hi H Q ∨ rSlA K x lo hi H Q
theorem sl_seqG : SlR X (rSlG X.K) := sl_list.or sl_tupA
def rSumS (K : PySem.W.Frag) : List V → Hp → VK → Prop := fun vs H Q => ∃ (a : Addr) (ns : List Int), vs = [V.ref a] ∧ (SqL K H a (ns.map V.int) ∨ SqT K H a (ns.map V.int)) ∧ Q (.int ns.sum) H
theorem cr_sumS (hc : X.calm = true) : CallR X (.builtin "sum") (rSumS X.K) := by
  intro pins s σ H vs us Q I r h
  obtain ⟨a, ns, rfl, hs, q⟩ := h
  rw [Vals.ref1 r]
  rcases hs with hs | hs
  · obtain ⟨its, rv, hl, _⟩ := I.list hs
    exact sum_raw (I.ok.hd hc) hl.isList rv.ints fun h' tk t' hk => ⟨.int _, H, I.kept hk, ⟨_, rfl⟩, q⟩
  · obtain ⟨its, rv, ht, _⟩ := I.tuple hs
    have hi := rv.ints
    obtain ⟨xs, e⟩ := hi.allInts.items
    have hn : numsOf (intItems xs).toList = ns := by rw [← e]; exact hi.numsOf
    rw [nums_intItems] at hn
    have ht' : s.heap.IsTuple a its.toArray := ht
    rw [e] at ht'
    refine PySem.W.ktm_sumG (I.ok.hd hc) ht' fun h' tk t' hk => ⟨.int ns.sum, H, I.kept hk, ⟨t', ?_⟩, q⟩
    rw [preSum_eq, List.take_of_length_le (by simp), hn]

end

/-! ### enumerate(tuple) -/
def IteT (K : PySem.W.Frag) (a : Addr) : It :=
  ⟨fun i H => ∃ (xs : List V) (x : V), SqT K H a xs ∧ xs[i]? = some x, fun i H v H' => ∃ T x, v = .ref T ∧ H T = none ∧ H' = upd H T (.tup [.int (i : Nat), x]) ∧ ∀ xs, SqT K H a xs → xs[i]? = some x, fun i H => ∃ xs : List V, SqT K H a xs ∧ xs.length ≤ i⟩
theorem tup_ne_iter {h : Heap} {a it : Addr} {items : Array Value} {i : Nat} (p : IsTup h a items) (q : h.IsTupleIter it a i) : a ≠ it := by
  obtain ⟨o, ho, hc, _⟩ := p
  obtain ⟨o', ho', hc', _⟩ := q
  intro e
  subst e
  rw [ho] at ho'
  cases ho'
  rw [hc] at hc'
  exact absurd hc' (by decide)
theorem meets_enumerate_newT (l : Addr) (items : Array Value) :
    Meets (Builtin.«enumerate.__new__» ⟨[.type "enumerate", .ref l], []⟩) (fun _ R s => s.heap.IsTuple l items ∧
      R (.ok (.ret (.ref (s.heap.push { cls := .type "tuple_iterator", data := .fields #[.ref l, .int 0 0] }).objs.size)))
        { s with heap := (s.heap.push { cls := .type "tuple_iterator", data := .fields #[.ref l, .int 0 0] }).push { cls := .type "enumerate", data := .fields #[.none, .bool false, .ref s.heap.objs.size, rawInt 0, .none, .none] } }) :=
  .of_wp fun prog w A R s h => by
    obtain ⟨hp, g, d, tk, os⟩ := s; obtain ⟨h1, h⟩ := h
    have hsub := sub_enumerate
    have q1 : ∀ {A' : Around} {E : Value → Shared → Prop} {Q : Value → Shared → Prop}, Q (.ref hp.objs.size) ⟨hp.push { cls := .type "tuple_iterator", data := .fields #[.ref l, .int 0 0] }, g, d, tk, os⟩ → wpAny (model prog w) A' (pyIter (.ref l)) Q E ⟨hp, g, d, tk, os⟩ :=
      fun q => wpAny_pyIter_tuple (s := ⟨hp, g, d, tk, os⟩) h1 q
    wp_walk using q1
    refine wpAny_stack_any fun st => wpAny_pure ?_
    split
    · rename_i c _ _ _ _ _
      cases (c == Value.type "enumerate")
      · wp_walk using q1
        exact ⟨_, rfl, h⟩
      · wp_walk using q1
        exact ⟨_, rfl, h⟩
    · wp_walk using q1
      exact ⟨_, rfl, h⟩
theorem call_enumerate_tup {prog : Program} {w : World} {A : Around} {E : Value → Shared → Prop} {s : Shared} {l : Addr} {items : Array Value} {Q : Value → Shared → Prop} (hL : s.heap.IsTuple l items)
    (h : ∀ h', IsEnum h' (s.heap.objs.size + 1) s.heap.objs.size 0 .none → h'.IsTupleIter s.heap.objs.size l 0 → h'.objs.size = s.heap.objs.size + 2 →
      (∀ b o, s.heap.get? b = some o → h'.get? b = some o) → Q (.ref (s.heap.objs.size + 1)) { s with heap := h' }) :
    wpAny (model prog w) A (call (.type "enumerate") [.ref l]) Q E s := by
  refine callType_new F.called_enumerate (by decide) (F.typeCall_enumerate_1 _) (F.newCall_enumerate_1 _) (fun obj => F.args_object_init_2 obj _) F.entry_enumerate_new
    (meets_enumerate_newT l items) ⟨hL, ?_⟩
  have hz : (s.heap.push { cls := .type "tuple_iterator", data := .fields #[.ref l, .int 0 0] }).objs.size = s.heap.objs.size + 1 := Heap.size_push ..
  show _ ∧ _
  rw [hz]
  have he : IsEnum ((s.heap.push { cls := .type "tuple_iterator", data := .fields #[.ref l, .int 0 0] }).push
      { cls := .type "enumerate", data := .fields #[.none, .bool false, .ref s.heap.objs.size, rawInt 0, .none, .none] }) (s.heap.objs.size + 1) s.heap.objs.size 0 .none := by
    have := Heap.get?_push_size (s.heap.push { cls := .type "tuple_iterator", data := .fields #[.ref l, .int 0 0] })
      (o := { cls := .type "enumerate", data := .fields #[.none, .bool false, .ref s.heap.objs.size, rawInt 0, .none, .none] }) rfl
    rw [hz] at this; exact this
  refine ⟨⟨_, he, rfl⟩, h _ he ⟨_, Heap.get?_push_of_some _ (Heap.get?_push_size _ rfl), rfl, rfl⟩ (by rw [Heap.size_push, hz]) fun b o x => Heap.get?_push_of_some _ (Heap.get?_push_of_some _ x)⟩
theorem turn_enumT {P : Program} {w : World} {K : PySem.W.Frag} {elts : List Expr} {kk : Nat} {tpos : Pos} (a e it : Addr) :
    Turn P w K (.Tuple elts kk tpos) (IteT K a) [e, it] e (fun i h => (∃ old, IsEnum h e it ((i : Nat) : Int) old) ∧ h.IsTupleIter it a i ∧ e ≠ it) where
  mem := by simp
  obj := fun i h st b hb => by
    obtain ⟨⟨old, he⟩, ⟨o, ho, hc, hd⟩, _⟩ := st
    have e' : b = e ∨ b = it := by simpa using hb
    rcases e' with z | z
    · rw [z]; exact ⟨_, he, fun v q => nomatch q⟩
    · rw [z]; exact ⟨o, ho, fun v q => by rw [hd] at q; cases q⟩
  keep := fun i h h' st k => let ⟨⟨old, he⟩, hi, hne⟩ := st; ⟨⟨old, k e (by simp) _ he⟩, hi.at fun o q => k it (by simp) o q, hne⟩
  item := by
    intro X hP hw hK hc i pins s σ H E I hf st hg
    subst hP hw hK
    obtain ⟨⟨old, he⟩, hit, hne⟩ := st
    obtain ⟨xs, x, hq, hx⟩ := hg
    obtain ⟨its, rv, p, hz⟩ := I.tuple hq
    obtain ⟨u, hu, ru⟩ := rv.get hx
    have hai : a ≠ it := tup_ne_iter p hit
    have hel : e < s.heap.objs.size := Heap.lt_size he
    have hil : it < s.heap.objs.size := by obtain ⟨_, q, _⟩ := hit; exact Heap.lt_size q
    have hal : a < s.heap.objs.size := by obtain ⟨_, q, _⟩ := p; exact Heap.lt_size q
    have hae : e ≠ a := by
      obtain ⟨o, ho, hcl, _⟩ := id p
      intro z
      rw [← z, he] at ho
      cases ho
      have hcl' : (Value.type "enumerate") = Value.type "tuple" := hcl
      exact absurd hcl' (by decide)
    have hlt : i < its.toArray.size := by
      have h1 := (List.getElem?_eq_some_iff.mp hu).1
      simpa using h1
    refine wpAny_pyNext_enum_itemD (Draws.tuple (prog := X.prog) (w := X.w) (A := X.A.in1) (show X.A.in1.handled = none from I.ok.hd hc) it a hai its.toArray) he ⟨hit, p⟩ hlt hne (by simp [hne, hae]) fun y h' tk hP ho st' hT hsz hk => ?_
    have ey : y = u := by
      have h1 : its.toArray[i]? = some y := hP
      have h2 : its.toArray[i]? = some u := by simpa using hu
      rw [h1] at h2
      exact Option.some.inj h2
    subst ey
    refine ⟨_, rfl, wpAny_letOwnedTupleGo_enum (s := { s with heap := h', toks := tk + 1 }) ho fun h'' he' sb => ?_⟩
    have hT2 : h''.get? s.heap.objs.size = some { cls := .type "tuple", data := .seq #[.int i tk, y] } := (sb.2 _ (Nat.ne_of_gt hel)).trans hT
    have new : ObjOk X.prog X.w (upd H s.heap.objs.size (.tup [.int (i : Nat), x])) h'' s.heap.objs.size (.tup [.int (i : Nat), x]) :=
      ⟨by show 2 ≤ sizeLine; decide, [.int i tk, y], .cons ⟨_, rfl⟩ (.cons ru .nil), ⟨_, hT2, rfl, _, rfl⟩⟩
    have I1 : Inv X pins σ (upd H s.heap.objs.size (.tup [.int (i : Nat), x])) { s with heap := h'', toks := tk + 1 } :=
      I.turnedNew (t' := tk + 1) (ch := [e, it]) (fun b ob hb q => (sb.2 b (fun z => hb (by simp [z]))).trans (hk b ob (fun z => hb (by simp [z])) (fun z => hb (by simp [z])) q)) hf (Nat.le_refl _) new
    refine ⟨.ref s.heap.objs.size, _, I1, rfl, ⟨_, x, rfl, I.hok.fresh (Nat.le_refl _), rfl, fun ys hy => by rw [I.tuple_inj hy hq]; exact hx⟩, ⟨⟨y, ?_⟩, st'.1.at fun o q => (sb.2 it (Ne.symm hne)).trans q, hne⟩, fun b hb => ?_⟩
    · have e1 : ((i + 1 : Nat) : Int) = (i : Int) + 1 := by omega
      rw [e1]; exact he'
    · have hb' : b < s.heap.objs.size := by
        have e' : b = e ∨ b = it := by simpa using hb
        rcases e' with z | z
        · rw [z]; exact hel
        · rw [z]; exact hil
      rw [upd_ne (Nat.ne_of_lt hb')]
      exact (hf b hb).1
  done := by
    intro X hP hw hK hc i pins s σ H E I hf st hg
    subst hP hw hK
    obtain ⟨⟨old, he⟩, hit, hne⟩ := st
    obtain ⟨xs, hq, hx⟩ := hg
    obtain ⟨its, rv, p, hz⟩ := I.tuple hq
    have hai : a ≠ it := tup_ne_iter p hit
    obtain ⟨f0, f1, f2, f3, f4, f5⟩ := hf it (by simp)
    have hl := rv.length
    unfold pyNext
    have hT : s.TypeIs (.ref e) "enumerate" := ⟨_, he, rfl⟩
    refine wpAny_bind (wpAny_attempt (wpAny_callSpecial?_slot (name := Str.ofString "__next__") hT F.slot_enumerate_next
      (wpAny_call_entry F.slot_enumerate_next hT F.entry_enumerate_next ?_ (F.args_enumerate_next_1 _))))
    show wpAny _ _ (field (.ref e) 2 >>= _) _ _ _
    refine wpAny_bind (wpAny_field he rfl (x := .ref it) rfl ?_)
    refine wpAny_bind (wpAny_nextOf_tuple_end (show X.A.in1.handled = none from I.ok.hd hc) hit p (by simp; omega) fun h' x he' hx' => ?_)
    obtain ⟨o, ho, hcx⟩ := hx'
    refine wpAny_bind (wpAny_isInstance (T := "StopIteration") (b := true) ⟨o, ho, hcx⟩ isSubtype_stop ?_)
    exact wpAny_pure ⟨rfl, I.turned (t' := s.toks) (fun b o hb q => he' b o hb q) f0 f1 f3 f4 f5⟩
  self := fun A i s Q E st h => let ⟨⟨_, he⟩, _⟩ := st; wpAny_pyIter_enum he h
def iEnumT (K : PySem.W.Frag) (ta : TA) : TI := fun σ H R => ta σ H fun vs H1 => ∃ a xs, vs = [.ref a] ∧ SqT K H1 a xs ∧ R (IteT K a) H1
theorem pi_enumT {X : Cx} {e : Expr} {ta : TA} {p pos tpos : Pos} {elts : List Expr} {kk : Nat} (hg : Gl X "enumerate") (hm : X.mg "enumerate" = none) (ha : PA X [e] ta) (hs : starEach [e] X.env = [(false, eval e X.env)] := by rfl) :
    PI X (.Tuple elts kk tpos) (.Call (.Name "enumerate" p) [e] [] pos) (iEnumT X.K ta) := by
  refine ⟨fun pins s σ H R I h => ?_⟩
  refine Call_ (ld_blt I hg hm boot_enumerate (PyProof.Rows.callWith_type1 (thn (ha.run pos pins s σ H _ I h) fun us s1 ⟨vs, H1, I1, r1, q1⟩ => ?_) hs rfl))
  obtain ⟨a, xs, ex, hq, q⟩ := q1
  subst ex
  cases r1 with
  | cons r rr =>
    cases rr
    cases r
    obtain ⟨its, rv, p', hz⟩ := I1.tuple hq
    refine call_enumerate_tup p' fun h' he hit hsz hk => wpAny_pyIter_enum he ?_
    have I2 : Inv X pins σ H1 { s1 with heap := h' } := I1.kept (t' := s1.toks) hk
    refine ⟨s1.heap.objs.size + 1, [s1.heap.objs.size + 1, s1.heap.objs.size], _, _, H1, rfl, I2, turn_enumT a (s1.heap.objs.size + 1) s1.heap.objs.size, ⟨⟨.none, he⟩, hit, Nat.succ_ne_self _⟩, fun b hb => ?_, q⟩
    have e' : b = s1.heap.objs.size + 1 ∨ b = s1.heap.objs.size := by simpa using hb
    have hle : s1.heap.objs.size ≤ b := by
      rcases e' with z | z
      · rw [z]; exact Nat.le_add_right _ _
      · rw [z]; exact Nat.le_refl _
    exact I1.fpOk hle (I1.hok.fresh hle)
theorem walk_enumT {K : PySem.W.Frag} {a : Addr} {xs : List V} : Walk (IteT K a) xs.length (fun H => SqT K H a xs) (YPair (fun i => some (.int (i : Nat))) (fun i => xs[i]?)) := by
  refine ⟨fun i _ hi q => ⟨xs, xs[i], q, by simp [hi]⟩, fun _ q => ⟨xs, q, Nat.le_refl _⟩, fun i H v H' _ q y => ?_⟩
  obtain ⟨T, x, h1, h2, h3, h4⟩ := y
  exact ⟨T, .int (i : Nat), x, h1, h2, h3, rfl, h4 xs q⟩
end L2

namespace L2
open PySem PySem.Spec PyProof.Rows

/-! ### names for readings -/
section
variable {X : Cx}
def rInt1 : List V → Hp → VK → Prop := fun xs H Q => (∃ i, xs = [.int i] ∧ Q (.int i) H) ∨ ∃ k, xs = [.bl k] ∧ Q (.int (if k then 1 else 0)) H
theorem cr_int1 : CallR X (.type "int") rInt1 := call_int1
def rAbs : List V → Hp → VK → Prop := fun xs H Q => ∃ i, xs = [.int i] ∧ Q (.int (if i < 0 then -i else i)) H
theorem cr_abs : CallR X (.builtin "abs") rAbs := call_abs
def rMax2 : List V → Hp → VK → Prop := fun xs H Q => ∃ i j, xs = [.int i, .int j] ∧ Q (.int (if j > i then j else i)) H
theorem cr_max2 (hc : X.calm = true) : CallR X (.builtin "max") rMax2 := call_max2 hc
def rMin2 : List V → Hp → VK → Prop := fun xs H Q => ∃ i j, xs = [.int i, .int j] ∧ Q (.int (if j < i then j else i)) H
theorem cr_min2 (hc : X.calm = true) : CallR X (.builtin "min") rMin2 := call_min2 hc
def rLenS (K : PySem.W.Frag) : List V → Hp → VK → Prop := fun xs H Q => ∃ p ys, xs = [.ref p] ∧ (SqL K H p ys ∨ SqT K H p ys) ∧ Q (.int ys.length) H
theorem cr_lenS : CallR X (.builtin "len") (rLenS X.K) := call_len_seq
def rListS (K : PySem.W.Frag) : List V → Hp → VK → Prop := fun xs H Q => ∃ p ys, xs = [.ref p] ∧ (SqL K H p ys ∨ SqT K H p ys) ∧ ∀ l, H l = none → Q (.ref l) (upd H l (.lst ys))
theorem cr_listS : CallR X (.type "list") (rListS X.K) := call_list_of
def rTupS (K : PySem.W.Frag) : List V → Hp → VK → Prop := fun xs H Q => ∃ p ys, xs = [.ref p] ∧ ((SqL K H p ys ∧ ∀ l, H l = none → Q (.ref l) (upd H l (.tup ys))) ∨ (SqT K H p ys ∧ Q (.ref p) H))
theorem cr_tupS : CallR X (.type "tuple") (rTupS X.K) := call_tuple_of
def rIsN : R2 := fun x y H Q => y = .non ∧ Q (.bl (decide (x = .non))) H
def rNotN : R2 := fun x y H Q => y = .non ∧ Q (.bl (!decide (x = .non))) H
theorem op_isNN : OpR X (compareOp .Is) rIsN := op_isN
theorem op_notNN : OpR X (compareOp .IsNot) rNotN := op_notN
def tTru (K : PySem.W.Frag) (ta : TE) : TT := fun σ H Q => ta σ H fun x H' => ∃ k, TruV K x H' k ∧ Q k H'
theorem pt_tru {a : Expr} {ta : TE} (ha : PE X a ta) (he : ∀ whole, isTrue a X.env whole = (do let v ← whole; standAt a.pos; holding [v] (truthy v))) : PT X a (tTru X.K ta) := pt_truth ha he
end

/-! ### the readings, one step each -/
def nth (ns : List Int) (i : Int) : Int := ns.getD i.toNat 0
theorem nth_at {ns : List Int} {i : Int} (h0 : 0 ≤ i) (h1 : i < ns.length) : atI (ns.map V.int) i = some (.int (nth ns i)) := by
  have e : i = ((i.toNat : Nat) : Int) := (Int.toNat_of_nonneg h0).symm
  have h2 : i.toNat < ns.length := by omega
  have g : (ns.map V.int)[i.toNat]? = some (.int (nth ns i)) := by
    rw [List.getElem?_map, List.getElem?_eq_getElem h2]
    unfold nth
    rw [List.getD_eq_getElem?_getD, List.getElem?_eq_getElem h2]
    rfl
  exact at_of e g
theorem nth_nat (ns : List Int) (i : Nat) : nth ns (i : Int) = ns.getD i 0 := rfl
theorem nth_mem {ns : List Int} {i : Int} (h0 : 0 ≤ i) (h1 : i < ns.length) : nth ns i ∈ ns := by
  have h2 : i.toNat < ns.length := by omega
  unfold nth
  rw [List.getD_eq_getElem?_getD, List.getElem?_eq_getElem h2]
  exact List.getElem_mem h2

theorem Same.seqT {K : PySem.W.Frag} {H H' : Hp} {a : Addr} {xs : List V} (e : Same H H') (h : SqT K H a xs) : SqT K H' a xs := by
  rcases h with (h | ⟨o, h⟩) | h
  · exact .inl (.inl (e _ _ h))
  · exact .inl (.inr ⟨o, e _ _ h⟩)
  · exact .inr h
/-- a list (true) or a tuple (false) -/
def Sq (b : Bool) (K : PySem.W.Frag) (H : Hp) (a : Addr) (xs : List V) : Prop := match b with
  | true => SqL K H a xs
  | false => SqT K H a xs
theorem Sq.or {b : Bool} {K : PySem.W.Frag} {H : Hp} {a : Addr} {xs : List V} (h : Sq b K H a xs) : SqL K H a xs ∨ SqT K H a xs := by
  cases b
  · exact .inr h
  · exact .inl h
theorem Sq.lst {K : PySem.W.Frag} {H : Hp} {a : Addr} {xs : List V} (h : H a = some (.lst xs)) : Sq true K H a xs := SqL.of h
theorem Sq.tup {K : PySem.W.Frag} {H : Hp} {a : Addr} {xs : List V} (h : H a = some (.tup xs)) : Sq false K H a xs := SqT.of h
theorem Same.sq {b : Bool} {K : PySem.W.Frag} {H H' : Hp} {a : Addr} {xs : List V} (e : Same H H') (h : Sq b K H a xs) : Sq b K H' a xs := by
  cases b
  · exact e.seqT h
  · exact e.seq h
theorem Same.at {H H' : Hp} {a : Addr} {o : HO} (e : Same H H') (h : H a = some o) : H' a = some o := e a o h
theorem Same.new {H : Hp} {p : Addr} {o : HO} (h : H p = none) : Same H (upd H p o) := fun b x e => by
  rw [upd_ne (ne_of_none e h)]
  exact e
theorem Same.mut {H H' : Hp} {p : Addr} {o : HO} (e : Same H H') (h : H p = none) : Same H (upd H' p o) := fun a u ha => by
  rw [upd_ne (ne_of_none ha h)]
  exact e a u ha

section
variable {K : PySem.W.Frag} {σ σ' : St} {H : Hp} {v x y : V} {ta tb te : TE} {t u : TS} {D : Ends} {c d : TT} {Q : VK} {QB : Bool → Hp → Prop} {QA : List V → Hp → Prop} {r : R2}
theorem go_start (e : σ = σ') (h : t D σ' H) : t D σ H := by rw [e]; exact h
-- values
theorem w_var {i : Nat} (h : σ[i]? = some (some v)) (q : Q v H) : tVar i σ H Q := ⟨v, h, q⟩
theorem w_c (q : Q v H) : tC v σ H Q := q
theorem w_op (q : ta σ H fun x H1 => tb σ H1 fun y H2 => r x y H2 Q) : tOp r ta tb σ H Q := q
theorem w_un {r : V → Hp → VK → Prop} (q : ta σ H fun x H1 => r x H1 Q) : tUn r ta σ H Q := q
theorem w_rU {g : Int → V} {i : Int} (q : Q (g i) H) : rU g (.int i) H Q := ⟨i, rfl, q⟩
theorem w_I0 {g : Int → Int → V} {i j : Int} (q : Q (g i j) H) : rI0 g (.int i) (.int j) H Q := ⟨i, j, rfl, rfl, q⟩
theorem w_I {C : Int → Int → Prop} {g : Int → Int → V} {i j : Int} (hc : C i j) (q : Q (g i j) H) : rI C g (.int i) (.int j) H Q := ⟨i, j, rfl, rfl, hc, q⟩
theorem w_addI {i j : Int} (q : Q (.int (i + j)) H) : rAddG K (.int i) (.int j) H Q := .inl ⟨i, j, rfl, rfl, q⟩
theorem w_eqI {i j : Int} (q : Q (.bl (decide (i = j))) H) : rEqG K (.int i) (.int j) H Q := .inl ⟨rfl, by
  have e : decide (V.int i = V.int j) = decide (i = j) := by
    rw [dec_int]
    by_cases h : i = j
    · subst h; simp
    · rw [decide_eq_false h]; exact beq_eq_false_iff_ne.mpr h
  rw [e]; exact q⟩
theorem w_neI {i j : Int} (q : Q (.bl (!decide (i = j))) H) : rNeG K (.int i) (.int j) H Q := .inl ⟨rfl, by
  have e : decide (V.int i = V.int j) = decide (i = j) := by
    rw [dec_int]
    by_cases h : i = j
    · subst h; simp
    · rw [decide_eq_false h]; exact beq_eq_false_iff_ne.mpr h
  rw [e]; exact q⟩
theorem w_eqS (hs : scal x y = true) (q : Q (.bl (decide (x = y))) H) : rEqG K x y H Q := .inl ⟨hs, q⟩
theorem w_eqD {d e : PyData} (hd : Dp K H x d) (he : Dp K H y e) (sd : SeqAt.shaped d = true) (se : SeqAt.shaped e = true) (q : Q (.bl (PyData.eqv d e)) H) : rEqG K x y H Q := .inr ⟨d, e, hd, he, sd, se, q⟩
theorem w_neD {d e : PyData} (hd : Dp K H x d) (he : Dp K H y e) (sd : SeqAt.shaped d = true) (se : SeqAt.shaped e = true) (q : Q (.bl (!PyData.eqv d e)) H) : rNeG K x y H Q := .inr ⟨d, e, hd, he, sd, se, q⟩
theorem w_isN (q : Q (.bl (decide (x = .non))) H) : rIsN x .non H Q := ⟨rfl, q⟩
theorem w_isNn (q : Q (.bl true) H) : rIsN .non .non H Q := ⟨rfl, q⟩
theorem w_isNi {i : Int} (q : Q (.bl false) H) : rIsN (.int i) .non H Q := ⟨rfl, q⟩
theorem w_isNb {b : Bool} (q : Q (.bl false) H) : rIsN (.bl b) .non H Q := ⟨rfl, q⟩
theorem w_isNs {z : Str} (q : Q (.bl false) H) : rIsN (.str z) .non H Q := ⟨rfl, q⟩
theorem w_isNr {a : Addr} (q : Q (.bl false) H) : rIsN (.ref a) .non H Q := ⟨rfl, q⟩
theorem w_notNn (q : Q (.bl false) H) : rNotN .non .non H Q := ⟨rfl, q⟩
theorem w_notNi {i : Int} (q : Q (.bl true) H) : rNotN (.int i) .non H Q := ⟨rfl, q⟩
theorem w_notNb {b : Bool} (q : Q (.bl true) H) : rNotN (.bl b) .non H Q := ⟨rfl, q⟩
theorem w_notNs {z : Str} (q : Q (.bl true) H) : rNotN (.str z) .non H Q := ⟨rfl, q⟩
theorem w_notNr {a : Addr} (q : Q (.bl true) H) : rNotN (.ref a) .non H Q := ⟨rfl, q⟩
theorem w_notN (q : Q (.bl (!decide (x = .non))) H) : rNotN x .non H Q := ⟨rfl, q⟩
theorem w_cb {r : List V → Hp → VK → Prop} {ta : TA} (q : ta σ H fun vs H1 => r vs H1 Q) : tCB r ta σ H Q := q
theorem w_aNil (q : QA [] H) : tNil σ H QA := q
theorem w_aCons {tr : TA} (q : ta σ H fun x H1 => tr σ H1 fun xs H2 => QA (x :: xs) H2) : tCons ta tr σ H QA := q
theorem w_int1 {i : Int} (q : Q (.int i) H) : rInt1 [.int i] H Q := .inl ⟨i, rfl, q⟩
theorem w_int1b {k : Bool} (q : Q (.int (if k then 1 else 0)) H) : rInt1 [.bl k] H Q := .inr ⟨k, rfl, q⟩
theorem w_abs {i : Int} (q : Q (.int (if i < 0 then -i else i)) H) : rAbs [.int i] H Q := ⟨i, rfl, q⟩
theorem w_max2 {i j : Int} (q : Q (.int (if j > i then j else i)) H) : rMax2 [.int i, .int j] H Q := ⟨i, j, rfl, q⟩
theorem w_min2 {i j : Int} (q : Q (.int (if j < i then j else i)) H) : rMin2 [.int i, .int j] H Q := ⟨i, j, rfl, q⟩
theorem w_lenS {p : Addr} {ys : List V} {b : Bool} (h : Sq b K H p ys) (q : Q (.int ys.length) H) : rLenS K [.ref p] H Q := ⟨p, ys, rfl, h.or, q⟩
theorem w_lenI {p : Addr} {ns : List Int} {b : Bool} (h : Sq b K H p (ns.map V.int)) (q : Q (.int ns.length) H) : rLenS K [.ref p] H Q := ⟨p, _, rfl, h.or, by rw [List.length_map]; exact q⟩
theorem w_sumI {p : Addr} {ns : List Int} {b : Bool} (h : Sq b K H p (ns.map V.int)) (q : Q (.int ns.sum) H) : rSumS K [.ref p] H Q := ⟨p, ns, rfl, h.or, q⟩
theorem w_listS {p : Addr} {ys : List V} {b : Bool} (h : Sq b K H p ys) (q : ∀ l, H l = none → Q (.ref l) (upd H l (.lst ys))) : rListS K [.ref p] H Q := ⟨p, ys, rfl, h.or, q⟩
theorem w_tupL {p : Addr} {ys : List V} (h : Sq true K H p ys) (q : ∀ l, H l = none → Q (.ref l) (upd H l (.tup ys))) : rTupS K [.ref p] H Q := ⟨p, ys, rfl, .inl ⟨h, q⟩⟩
theorem w_tupT {p : Addr} {ys : List V} (h : Sq false K H p ys) (q : Q (.ref p) H) : rTupS K [.ref p] H Q := ⟨p, ys, rfl, .inr ⟨h, q⟩⟩
theorem w_ix {b : Bool} {p : Addr} {xs : List V} {i : Int} (h : Sq b K H p xs) (ha : atI xs i = some v) (q : Q v H) : rIx K (.ref p) (.int i) H Q := by
  rcases h.or with h | h
  · exact .inl ⟨p, xs, i, v, rfl, rfl, h, ha, q⟩
  · exact .inr (.inl ⟨p, xs, i, v, rfl, rfl, h, ha, q⟩)
theorem w_ixI {b : Bool} {p : Addr} {ns : List Int} {i : Int} (h : Sq b K H p (ns.map V.int)) (h0 : 0 ≤ i) (h1 : i < ns.length) (q : Q (.int (nth ns i)) H) : rIx K (.ref p) (.int i) H Q := w_ix h (nth_at h0 h1) q
theorem w_tupD {ta : TA} (q : ta σ H fun xs H1 => xs.length ≤ sizeLine ∧ ∀ p, H1 p = none → Q (.ref p) (upd H1 p (.tup xs))) : tTup ta σ H Q := q
theorem w_lstD {ta : TA} (q : ta σ H fun xs H1 => xs.length ≤ sizeLine ∧ ∀ p, H1 p = none → Q (.ref p) (upd H1 p (.lst xs))) : tLst ta σ H Q := q
theorem w_call {sp : Sp} {dvs : List V} {E : XK} {ta : TA} (q : ta σ H fun vs H1 => sp (vs ++ dvs) H1 Q E) : tCall sp dvs E ta σ H Q := q
theorem w_andV (q : ta σ H fun x H1 => ∃ c, x = .bl c ∧ if c = true then tb σ H1 Q else Q (.bl false) H1) : tAndV ta tb σ H Q := q
theorem w_orV (q : ta σ H fun x H1 => ∃ c, x = .bl c ∧ if c = true then Q (.bl true) H1 else tb σ H1 Q) : tOrV ta tb σ H Q := q
theorem w_notV (q : ta σ H fun x H1 => ∃ c, x = .bl c ∧ Q (.bl (!c)) H1) : tNotV ta σ H Q := q
-- methods of lists
theorem w_bm {T : String} {r : V → List V → Hp → VK → Prop} {to : TE} {ta : TA} (q : to σ H fun x H1 => tyV K T x H1 ∧ ta σ H1 fun xs H2 => r x xs H2 Q) : tBM K T r to ta σ H Q := q
theorem w_append {l : Addr} {xs : List V} (h : H l = some (.lst xs)) (hz : xs.length < sizeLine) (q : Q .non (upd H l (.lst (xs ++ [y])))) : rAppend (.ref l) [y] H Q := ⟨l, xs, y, rfl, rfl, h, hz, q⟩
theorem w_tyL {l : Addr} {xs : List V} {B : Prop} (h : Sq true K H l xs) (q : B) : tyV K "list" (.ref l) H ∧ B := ⟨.inl ⟨rfl, _, h⟩, q⟩
-- tests
theorem w_test (q : ta σ H fun x H' => ∃ k, x = .bl k ∧ QB k H') : tTest ta σ H QB := q
theorem w_tB (q : ta σ H fun x H' => ∃ k, x = .bl k ∧ QB k H') : tB ta σ H QB := q
theorem w_tru (q : ta σ H fun x H' => ∃ k, TruV K x H' k ∧ QB k H') : tTru K ta σ H QB := q
theorem w_exb {b : Bool} {F : Bool → Prop} (q : F b) : ∃ k, V.bl b = .bl k ∧ F k := ⟨b, rfl, q⟩
theorem w_truB {b : Bool} {F : Bool → Prop} (q : F b) : ∃ k, TruV K (.bl b) H k ∧ F k := ⟨b, rfl, q⟩
theorem w_truI {i : Int} {F : Bool → Prop} (q : F (i != 0)) : ∃ k, TruV K (.int i) H k ∧ F k := ⟨_, rfl, q⟩
theorem w_not (q : c σ H fun b H1 => QB (!b) H1) : tNot c σ H QB := q
theorem w_and (q : c σ H fun b H1 => if b = true then d σ H1 QB else QB false H1) : tAnd c d σ H QB := q
theorem w_or (q : c σ H fun b H1 => if b = true then QB true H1 else d σ H1 QB) : tOr c d σ H QB := q
theorem w_ifE (q : c σ H fun b H1 => if b = true then ta σ H1 Q else tb σ H1 Q) : tIf c ta tb σ H Q := q
theorem w_iteD {p A B : Prop} {_ : Decidable p} (h1 : p → A) (h2 : ¬ p → B) : if decide p = true then A else B := by
  by_cases h : p
  · rw [if_pos (decide_eq_true h)]; exact h1 h
  · rw [if_neg (by simp [h])]; exact h2 h
theorem w_iteN {p A B : Prop} {_ : Decidable p} (h1 : ¬ p → A) (h2 : p → B) : if (!decide p) = true then A else B := by
  by_cases h : p
  · rw [if_neg (by simp [h])]; exact h2 h
  · rw [if_pos (by simp [h])]; exact h1 h
theorem w_iteNT {A B : Prop} (h : B) : if (!true) = true then A else B := h
theorem w_iteNF {A B : Prop} (h : A) : if (!false) = true then A else B := h
theorem w_iteB {b : Bool} {A B : Prop} (h1 : b = true → A) (h2 : b = false → B) : if b = true then A else B := by
  cases b
  · exact h2 rfl
  · exact h1 rfl
-- statements
variable {f b' c' : St → Hp → Prop} {rt : VK}
theorem w_seq (q : t ⟨u ⟨f, rt, b', c'⟩, rt, b', c'⟩ σ H) : tSeq t u ⟨f, rt, b', c'⟩ σ H := q
theorem w_asg {g : TG} (q : te σ H fun x H1 => g x σ H1 f) : tAsg te g ⟨f, rt, b', c'⟩ σ H := q
theorem w_gName {i : Nat} {N : St → Hp → Prop} (q : N (σ.set i (some v)) H) : gName i v σ H N := q
theorem w_drop (q : te σ H fun _ H1 => f σ H1) : tDrop te ⟨f, rt, b', c'⟩ σ H := q
theorem w_ret (q : te σ H rt) : tRet te ⟨f, rt, b', c'⟩ σ H := q
theorem w_retN (q : rt .non H) : tRetN ⟨f, rt, b', c'⟩ σ H := q
theorem w_ifS (q : c σ H fun b H1 => if b = true then t D σ H1 else u D σ H1) : tIfS c t u D σ H := q
theorem w_next (q : f σ H) : tNext ⟨f, rt, b', c'⟩ σ H := q
theorem w_brk (q : b' σ H) : tBreak ⟨f, rt, b', c'⟩ σ H := q
theorem w_cont (q : c' σ H) : tCont ⟨f, rt, b', c'⟩ σ H := q
theorem w_nx {f b c : St → Hp → Prop} {r : VK} (q : f σ H) : Ends.nx ⟨f, r, b, c⟩ σ H := q
theorem w_rt {f b c : St → Hp → Prop} {r : VK} (q : r v H) : Ends.rt ⟨f, r, b, c⟩ v H := q
theorem w_bk {f b c : St → Hp → Prop} {r : VK} (q : b σ H) : Ends.bk ⟨f, r, b, c⟩ σ H := q
theorem w_ct {f b c : St → Hp → Prop} {r : VK} (q : c σ H) : Ends.ct ⟨f, r, b, c⟩ σ H := q
theorem w_augI {i : Nat} {g : Int → Int → Int} {z : Int} (hx : σ[i]? = some (some (.int z))) (q : te σ H fun y H1 => ipI g (.int z) y H1 fun z H2 => f (σ.set i (some z)) H2) : tAug i te (ipI g) ⟨f, rt, b', c'⟩ σ H := ⟨_, hx, q⟩
theorem w_ipI {f : Int → Int → Int} {i j : Int} (q : Q (.int (f i j)) H) : ipI f (.int i) (.int j) H Q := ⟨i, j, rfl, rfl, q⟩
-- slices
theorem w_sl {r : V → Option Int → Option Int → Hp → VK → Prop} {tl th : TO} (q : te σ H fun x H1 => tl σ H1 fun l H2 => th σ H2 fun u H3 => r x l u H3 Q) : tSl r te tl th σ H Q := q
theorem w_noPart {QO : Option Int → Hp → Prop} (q : QO none H) : tNoPart σ H QO := q
theorem w_part {QO : Option Int → Hp → Prop} (q : te σ H fun x H1 => ∃ i, x = .int i ∧ QO (some i) H1) : tPart te σ H QO := q
theorem w_exi {i : Int} {F : Int → Prop} (q : F i) : ∃ k, V.int i = .int k ∧ F k := ⟨i, rfl, q⟩
theorem w_slL {a : Addr} {xs : List V} {lo hi : Option Int} (h : Sq true K H a xs) (q : ∀ p, H p = none → Q (.ref p) (upd H p (.lst (cutV xs lo hi)))) : rSlG K (.ref a) lo hi H Q := .inl ⟨a, xs, rfl, h, q⟩
-- loops
end
/-- what a for asks of its walk J -/
def LoopOk (J : It) (g : TG) (tb : TS) (D : Ends) (σ : St) (H : Hp) : Prop := ∃ W : Nat → Nat → St → Hp → Prop, (∃ m, W 0 m σ H) ∧ ∀ i m σ H, W i m σ H →
  (J.stop i H ∧ D.nx σ H) ∨ (J.go i H ∧ ∃ N : St → Hp → Prop, (∀ σ' H', N σ' H' → ∃ m', m' < m ∧ W (i + 1) m' σ' H') ∧ ∀ x H', J.yld i H x H' → g x σ H' fun σ2 H2 => tb { D with nx := N, ct := N, bk := D.nx } σ2 H2)
section
variable {K : PySem.W.Frag} {σ σ' : St} {H : Hp} {t : TS} {D : Ends} {g : TG} {f b' c' : St → Hp → Prop} {rt : VK}
theorem w_for {wi : TI} (q : wi σ H fun J H1 => LoopOk J g t D σ H1) : tFor wi g t D σ H := q
theorem w_iRng1 {ta : TA} {R : It → Hp → Prop} (q : ta σ H fun vs H1 => ∃ j : Int, vs = [.int j] ∧ -(2 ^ 62) ≤ j ∧ j < 2 ^ 62 ∧ R (Itr 0 j.toNat) H1) : iRng1 ta σ H R := q
theorem w_iRng2 {ta : TA} {R : It → Hp → Prop} (q : ta σ H fun vs H1 => ∃ i j : Int, vs = [.int i, .int j] ∧ (-(2 ^ 62) ≤ i ∧ i < 2 ^ 62 ∧ -(2 ^ 62) ≤ j ∧ j < 2 ^ 62) ∧ R (Itr i (j - i).toNat) H1) : iRng2 ta σ H R := q
theorem l_it {J : It} {n : Nat} {G : Hp → Prop} {Y : Nat → Hp → V → Hp → Prop} (w : Walk J n G Y) (Pv : Nat → St → Hp → Prop) (h0 : Pv 0 σ H) (hG : ∀ i σ H, i ≤ n → Pv i σ H → G H)
    (hs : ∀ i x σ H H', i < n → Pv i σ H → Y i H x H' → g x σ H' fun σ2 H2 => t ⟨Pv (i + 1), rt, f, Pv (i + 1)⟩ σ2 H2) (hd : ∀ σ H, Pv n σ H → f σ H) : LoopOk J g t ⟨f, rt, b', c'⟩ σ H := for_it w Pv h0 hG hs hd
/-- for k in range(n) -/
theorem l_range {n : Int} {k : Nat} (Pv : Nat → St → Hp → Prop) (h1 : -(2 ^ 62) ≤ n) (h2 : n < 2 ^ 62) (h0 : Pv 0 σ H)
    (hs : ∀ (i : Nat) σ' H', (i : Int) < n → Pv i σ' H' → t ⟨Pv (i + 1), rt, f, Pv (i + 1)⟩ (σ'.set k (some (.int (i : Int)))) H') (hd : ∀ σ' H', Pv n.toNat σ' H' → f σ' H') :
    ∃ j : Int, [V.int n] = [.int j] ∧ -(2 ^ 62) ≤ j ∧ j < 2 ^ 62 ∧ LoopOk (Itr 0 j.toNat) (gName k) t ⟨f, rt, b', c'⟩ σ H := by
  refine ⟨n, rfl, h1, h2, l_it walk_range Pv h0 (fun _ _ _ _ _ => trivial) (fun i x σ' H1 H2 hi hp hy => ?_) hd⟩
  obtain ⟨e, ex⟩ := hy
  subst e ex
  show gName k (V.int (0 + (i : Int))) σ' _ _
  rw [Int.zero_add]
  exact hs i σ' _ (by omega) hp
theorem l_range2 {lo n : Int} {k : Nat} (Pv : Nat → St → Hp → Prop) (h1 : -(2 ^ 62) ≤ lo ∧ lo < 2 ^ 62 ∧ -(2 ^ 62) ≤ n ∧ n < 2 ^ 62) (h0 : Pv 0 σ H)
    (hs : ∀ (i : Nat) σ' H', lo + (i : Int) < n → Pv i σ' H' → t ⟨Pv (i + 1), rt, f, Pv (i + 1)⟩ (σ'.set k (some (.int (lo + (i : Int))))) H') (hd : ∀ σ' H', Pv (n - lo).toNat σ' H' → f σ' H') :
    ∃ i j : Int, [V.int lo, V.int n] = [.int i, .int j] ∧ (-(2 ^ 62) ≤ i ∧ i < 2 ^ 62 ∧ -(2 ^ 62) ≤ j ∧ j < 2 ^ 62) ∧ LoopOk (Itr i (j - i).toNat) (gName k) t ⟨f, rt, b', c'⟩ σ H := by
  refine ⟨lo, n, rfl, h1, l_it walk_range Pv h0 (fun _ _ _ _ _ => trivial) (fun i x σ' H1 H2 hi hp hy => ?_) hd⟩
  obtain ⟨e, ex⟩ := hy
  subst e ex
  exact hs i σ' _ (by omega) hp
end

/-! ### for x in (a list or a tuple), enumerate of either: what is walked is reckoned first -/
def iSeq (K : PySem.W.Frag) (tl : TE) : TI := fun σ H R => tl σ H fun x H1 => ∃ a, x = .ref a ∧ ((∃ xs, SqL K H1 a xs) ∧ R (Itl K a) H1 ∨ (∃ xs, SqT K H1 a xs) ∧ R (Itt K a) H1)
section
variable {X : Cx}
theorem pi_seqS {tg l : Expr} {tl : TE} (hl : PE X l tl) : PI X tg l (iSeq X.K tl) := by
  refine ⟨fun pins s σ H R I h => ?_⟩
  refine thn (hl.run pins s σ H _ I h) fun v s1 ⟨x, H1, I1, r1, q1⟩ => ?_
  obtain ⟨a, e, q1⟩ := q1
  subst e
  cases r1
  rcases q1 with ⟨⟨xs, hq⟩, q⟩ | ⟨⟨xs, hq⟩, q⟩
  · obtain ⟨its, rv, p, hz⟩ := I1.list hq
    refine wpAny_pyIter_list p.isList ?_
    refine ⟨s1.heap.objs.size, [s1.heap.objs.size], _, _, H1, rfl, I1.kept (t' := s1.toks) fun b o e => Heap.get?_push_of_some _ e, turn_list a _, ⟨_, Heap.get?_push_size _ rfl, rfl, rfl⟩, fun b hb => ?_, q⟩
    have e : b = s1.heap.objs.size := by simpa using hb
    subst e
    exact I1.fpOk (Nat.le_refl _) (I1.hok.fresh (Nat.le_refl _))
  · obtain ⟨its, rv, p, hz⟩ := I1.tuple hq
    refine wpAny_pyIter_tuple (show s1.heap.IsTuple a its.toArray from p) ?_
    refine ⟨s1.heap.objs.size, [s1.heap.objs.size], _, _, H1, rfl, I1.kept (t' := s1.toks) fun b o e => Heap.get?_push_of_some _ e, turn_tuple a _, ⟨_, Heap.get?_push_size _ rfl, rfl, rfl⟩, fun b hb => ?_, q⟩
    have e : b = s1.heap.objs.size := by simpa using hb
    subst e
    exact I1.fpOk (Nat.le_refl _) (I1.hok.fresh (Nat.le_refl _))
def iEnumS (K : PySem.W.Frag) (ta : TA) : TI := fun σ H R => ta σ H fun vs H1 => ∃ a, vs = [.ref a] ∧ ((∃ xs, SqL K H1 a xs) ∧ R (Ite K a) H1 ∨ (∃ xs, SqT K H1 a xs) ∧ R (IteT K a) H1)
theorem pi_enumS {e : Expr} {ta : TA} {p pos tpos : Pos} {elts : List Expr} {kk : Nat} (hg : Gl X "enumerate") (hm : X.mg "enumerate" = none) (ha : PA X [e] ta) (hs : starEach [e] X.env = [(false, eval e X.env)] := by rfl) :
    PI X (.Tuple elts kk tpos) (.Call (.Name "enumerate" p) [e] [] pos) (iEnumS X.K ta) := by
  refine ⟨fun pins s σ H R I h => ?_⟩
  refine Call_ (ld_blt I hg hm boot_enumerate (PyProof.Rows.callWith_type1 (thn (ha.run pos pins s σ H _ I h) fun us s1 ⟨vs, H1, I1, r1, q1⟩ => ?_) hs rfl))
  obtain ⟨a, ex, q1⟩ := q1
  subst ex
  cases r1 with
  | cons r rr =>
    cases rr
    cases r
    have fp : ∀ b ∈ [s1.heap.objs.size + 1, s1.heap.objs.size], FpOk X pins H1 b := fun b hb => by
      have e' : b = s1.heap.objs.size + 1 ∨ b = s1.heap.objs.size := by simpa using hb
      have hle : s1.heap.objs.size ≤ b := by
        rcases e' with z | z
        · rw [z]; exact Nat.le_add_right _ _
        · rw [z]; exact Nat.le_refl _
      exact I1.fpOk hle (I1.hok.fresh hle)
    rcases q1 with ⟨⟨xs, hq⟩, q⟩ | ⟨⟨xs, hq⟩, q⟩
    · obtain ⟨its, rv, p', hz⟩ := I1.list hq
      refine call_enumerate_list p'.isList fun h' he hit hsz hk => wpAny_pyIter_enum he ?_
      have I2 : Inv X pins σ H1 { s1 with heap := h' } := I1.kept (t' := s1.toks) hk
      exact ⟨s1.heap.objs.size + 1, [s1.heap.objs.size + 1, s1.heap.objs.size], _, _, H1, rfl, I2, turn_enum a (s1.heap.objs.size + 1) s1.heap.objs.size, ⟨⟨.none, he⟩, hit, Nat.succ_ne_self _⟩, fp, q⟩
    · obtain ⟨its, rv, p', hz⟩ := I1.tuple hq
      refine call_enumerate_tup p' fun h' he hit hsz hk => wpAny_pyIter_enum he ?_
      have I2 : Inv X pins σ H1 { s1 with heap := h' } := I1.kept (t' := s1.toks) hk
      exact ⟨s1.heap.objs.size + 1, [s1.heap.objs.size + 1, s1.heap.objs.size], _, _, H1, rfl, I2, turn_enumT a (s1.heap.objs.size + 1) s1.heap.objs.size, ⟨⟨.none, he⟩, hit, Nat.succ_ne_self _⟩, fp, q⟩
end
section
variable {K : PySem.W.Frag} {σ : St} {H : Hp} {t : TS} {D : Ends} {g : TG} {f b' c' : St → Hp → Prop} {rt : VK}
theorem w_iSeq {tl : TE} {R : It → Hp → Prop} (q : tl σ H fun x H1 => ∃ a, x = .ref a ∧ ((∃ xs, SqL K H1 a xs) ∧ R (Itl K a) H1 ∨ (∃ xs, SqT K H1 a xs) ∧ R (Itt K a) H1)) : iSeq K tl σ H R := q
theorem w_iEnumS {ta : TA} {R : It → Hp → Prop} (q : ta σ H fun vs H1 => ∃ a, vs = [.ref a] ∧ ((∃ xs, SqL K H1 a xs) ∧ R (Ite K a) H1 ∨ (∃ xs, SqT K H1 a xs) ∧ R (IteT K a) H1)) : iEnumS K ta σ H R := q
theorem l_seq {b : Bool} {a : Addr} (xs : List V) (Pv : Nat → St → Hp → Prop) (h : Sq b K H a xs) (h0 : Pv 0 σ H) (hG : ∀ i σ H, i ≤ xs.length → Pv i σ H → Sq b K H a xs)
    (hs : ∀ (i : Nat) x σ' H', i < xs.length → xs[i]? = some x → Pv i σ' H' → g x σ' H' fun σ2 H2 => t ⟨Pv (i + 1), rt, f, Pv (i + 1)⟩ σ2 H2) (hd : ∀ σ' H', Pv xs.length σ' H' → f σ' H') :
    ∃ a', V.ref a = .ref a' ∧ ((∃ xs, SqL K H a' xs) ∧ LoopOk (Itl K a') g t ⟨f, rt, b', c'⟩ σ H ∨ (∃ xs, SqT K H a' xs) ∧ LoopOk (Itt K a') g t ⟨f, rt, b', c'⟩ σ H) := by
  refine ⟨a, rfl, ?_⟩
  cases b with
  | true =>
    refine .inl ⟨⟨xs, h⟩, l_it (walk_list (xs := xs)) Pv h0 hG (fun i x σ' H1 H2 hi hp hy => ?_) hd⟩
    obtain ⟨e, ex⟩ := hy
    subst e
    exact hs i x σ' _ hi ex hp
  | false =>
    refine .inr ⟨⟨xs, h⟩, l_it (walk_tup (xs := xs)) Pv h0 hG (fun i x σ' H1 H2 hi hp hy => ?_) hd⟩
    obtain ⟨e, ex⟩ := hy
    subst e
    exact hs i x σ' _ hi ex hp
theorem l_enum {b : Bool} {a : Addr} (xs : List V) (Pv : Nat → St → Hp → Prop) (h : Sq b K H a xs) (h0 : Pv 0 σ H) (hG : ∀ i σ H, i ≤ xs.length → Pv i σ H → Sq b K H a xs)
    (hs : ∀ (i : Nat) x (T : Addr) σ' H', i < xs.length → xs[i]? = some x → Pv i σ' H' → H' T = none → g (.ref T) σ' (upd H' T (.tup [.int (i : Int), x])) fun σ2 H2 => t ⟨Pv (i + 1), rt, f, Pv (i + 1)⟩ σ2 H2) (hd : ∀ σ' H', Pv xs.length σ' H' → f σ' H') :
    ∃ a', [V.ref a] = [.ref a'] ∧ ((∃ xs, SqL K H a' xs) ∧ LoopOk (Ite K a') g t ⟨f, rt, b', c'⟩ σ H ∨ (∃ xs, SqT K H a' xs) ∧ LoopOk (IteT K a') g t ⟨f, rt, b', c'⟩ σ H) := by
  refine ⟨a, rfl, ?_⟩
  cases b with
  | true =>
    refine .inl ⟨⟨xs, h⟩, l_it (walk_enum (xs := xs)) Pv h0 hG (fun i x σ' H1 H2 hi hp hy => ?_) hd⟩
    obtain ⟨T, u, v, rfl, hT, e, hu, hv⟩ := hy
    cases hu
    subst e
    exact hs i v T σ' _ hi hv hp hT
  | false =>
    refine .inr ⟨⟨xs, h⟩, l_it (walk_enumT (xs := xs)) Pv h0 hG (fun i x σ' H1 H2 hi hp hy => ?_) hd⟩
    obtain ⟨T, u, v, rfl, hT, e, hu, hv⟩ := hy
    cases hu
    subst e
    exact hs i v T σ' _ hi hv hp hT
/-- a, b = (a new pair) -/
theorem w_pair {i j : Nat} {a : Addr} {x y : V} {N : St → Hp → Prop} (h : Sq false K H a [x, y]) (q : N ((σ.set i (some x)).set j (some y)) H) : gTup K 2 (gCons (gName i) (gCons (gName j) gNil)) (.ref a) σ H N :=
  ⟨a, [x, y], rfl, h, rfl, x, [y], rfl, y, [], rfl, rfl, q⟩
end
end L2

namespace L2
open PySem PySem.Spec PyProof.Rows
/-! ### stores into lists, cuts, isinstance, lists of numbers -/
section
variable {K : PySem.W.Frag} {σ : St} {H : Hp} {v x : V} {D : Ends} {t u : TS} {Q : VK} {ta tb : TE}
theorem w_gSub {r : TSet} {N : St → Hp → Prop} (q : ta σ H fun o H1 => tb σ H1 fun i H2 => r o i v H2 fun H3 => N σ H3) : gSub ta tb r v σ H N := q
theorem w_setI {p : Addr} {ns : List Int} {k z : Int} {N : Hp → Prop} (h : H p = some (.lst (ns.map V.int))) (h0 : 0 ≤ k) (h1 : k < ns.length) (q : N (upd H p (.lst ((ns.set k.toNat z).map V.int)))) : rSetL (.ref p) (.int k) (.int z) H N := by
  refine ⟨p, ns.map V.int, k, k.toNat, rfl, rfl, h, ?_, ?_⟩
  · unfold ixN
    rw [if_pos h0, if_pos (by rw [List.length_map]; omega)]
  · rw [← List.map_set]; exact q
theorem w_setL {p : Addr} {xs : List V} {k : Int} {N : Hp → Prop} (h : H p = some (.lst xs)) (h0 : 0 ≤ k) (h1 : k < xs.length) (q : N (upd H p (.lst (xs.set k.toNat v)))) : rSetL (.ref p) (.int k) v H N := by
  refine ⟨p, xs, k, k.toNat, rfl, rfl, h, ?_, q⟩
  unfold ixN
  rw [if_pos h0, if_pos (by omega)]
theorem w_cut {f b' c' : St → Hp → Prop} {rt : VK} (Mid : St → Hp → Prop) (h1 : t ⟨Mid, rt, b', c'⟩ σ H) (h2 : ∀ σ' H', Mid σ' H' → u ⟨f, rt, b', c'⟩ σ' H') : Evl.tCut t u ⟨f, rt, b', c'⟩ σ H := ⟨Mid, h1, h2⟩
theorem w_isi {tn cn : String} {b : Bool} (ht : TyX K H x (.type tn)) (hk : kitB tn cn = some b) (q : Q (.bl b) H) : rIsi K [x, .ty cn] H Q := ⟨x, .ty cn, _, _, b, rfl, .ty cn, ht, kit_ty hk, q⟩
theorem tyx_tup {a : Addr} {xs : List V} (h : SqT K H a xs) : TyX K H (.ref a) (.type "tuple") := by
  rcases h with (h | ⟨o, h⟩) | ⟨o, its, n, h1, h2, _⟩
  · exact .base (.tup h)
  · exact .fTuple h
  · exact .kTuple h1 h2
theorem tyx_lst {a : Addr} {xs : List V} (h : SqL K H a xs) : TyX K H (.ref a) (.type "list") := by
  rcases h with (h | ⟨o, h⟩) | ⟨o, its, n, h1, h2, _⟩
  · exact .base (.lst h)
  · exact .base (.frz h)
  · exact .kList h1 h2
end
theorem last_at_neg {ns : List Int} (h : 0 < ns.length) : ∃ z, z ∈ ns ∧ atI (ns.map V.int) (-1) = some (.int z) := by
  refine ⟨ns[ns.length - 1], List.getElem_mem _, ?_⟩
  unfold atI ixN
  rw [if_neg (by decide), if_pos (by rw [List.length_map]; omega)]
  show (ns.map V.int)[(-1 + (((ns.map V.int).length : Nat) : Int)).toNat]? = _
  rw [List.length_map, show (-1 + ((ns.length : Nat) : Int)).toNat = ns.length - 1 by omega, List.getElem?_map, List.getElem?_eq_getElem (by omega)]
  rfl
theorem sum_nonneg : ∀ {ns : List Int}, (∀ x ∈ ns, (0 : Int) ≤ x) → 0 ≤ ns.sum
  | [], _ => by simp
  | a :: r, h => by
    have h1 := h a (List.mem_cons_self ..)
    have h2 := sum_nonneg (ns := r) fun x hx => h x (List.mem_cons_of_mem _ hx)
    rw [List.sum_cons]; omega
theorem sum_ge_mem : ∀ {ns : List Int} {z : Int}, (∀ x ∈ ns, (0 : Int) ≤ x) → z ∈ ns → z ≤ ns.sum
  | a :: r, z, h, hz => by
    have h1 := h a (List.mem_cons_self ..)
    have h2 := sum_nonneg (ns := r) fun x hx => h x (List.mem_cons_of_mem _ hx)
    rw [List.sum_cons]
    rcases List.mem_cons.mp hz with e | e
    · subst e; omega
    · have := sum_ge_mem (ns := r) (fun x hx => h x (List.mem_cons_of_mem _ hx)) e
      omega
/-- the same data by _law_same: no deeper than n -/
def Sm (K : PySem.W.Frag) (H : Hp) : Nat → V → V → Prop
  | 0, x, y => x = y ∧ (x = .non ∨ (∃ b, x = .bl b) ∨ (∃ i, x = .int i) ∨ ∃ s, x = .str s)
  | n + 1, x, y => (x = y ∧ (x = .non ∨ (∃ b, x = .bl b) ∨ (∃ i, x = .int i) ∨ ∃ s, x = .str s)) ∨
    ∃ (a a' : Addr) (k : Bool) (xs ys : List V), x = .ref a ∧ y = .ref a' ∧ SqT K H a xs ∧ Sq k K H a' ys ∧ xs.length = ys.length ∧ ys.length ≤ 100000 ∧ ∀ (i : Nat) x' y', xs[i]? = some x' → ys[i]? = some y' → Sm K H n x' y'
theorem Sm.int {K : PySem.W.Frag} {H : Hp} {n : Nat} {i : Int} : Sm K H n (.int i) (.int i) := by
  cases n
  · exact ⟨rfl, .inr (.inr (.inl ⟨i, rfl⟩))⟩
  · exact .inl ⟨rfl, .inr (.inr (.inl ⟨i, rfl⟩))⟩
theorem Same.sm {K : PySem.W.Frag} {H H' : Hp} (e : Same H H') : ∀ {n : Nat} {x y : V}, Sm K H n x y → Sm K H' n x y
  | 0, _, _, h => h
  | n + 1, _, _, h => by
    rcases h with h | ⟨a, a', k, xs, ys, h1, h2, h3, h4, h5, hz, h6⟩
    · exact .inl h
    · exact .inr ⟨a, a', k, xs, ys, h1, h2, e.seqT h3, e.sq h4, h5, hz, fun i x' y' hx hy => Same.sm e (h6 i x' y' hx hy)⟩
end L2

namespace L2
open PySem PySem.Spec PyProof.Rows
/-! ### lists of numbers: cut, compared, looked into -/
section
variable {K : PySem.W.Frag} {H : Hp} {Q : VK}
theorem cutV_to (ns : List Int) {j : Int} (hj : 0 ≤ j) : cutV (ns.map V.int) none (some j) = (ns.take j.toNat).map V.int := by
  have e : j = ((j.toNat : Nat) : Int) := (Int.toNat_of_nonneg hj).symm
  unfold cutV
  rw [HT.sIx_none, e, HT.sIx_nat, List.drop_zero, Nat.sub_zero, Int.toNat_natCast, List.map_take, List.length_map]
  rcases Nat.le_total j.toNat ns.length with h | h
  · rw [Nat.min_eq_left h]
  · rw [Nat.min_eq_right h, List.take_of_length_le (by rw [List.length_map]; exact Nat.le_refl _), List.take_of_length_le (by rw [List.length_map]; exact h)]
theorem w_slTo {a : Addr} {ns : List Int} {j : Int} (h : Sq true K H a (ns.map V.int)) (hj : 0 ≤ j) (q : ∀ p, H p = none → Q (.ref p) (upd H p (.lst ((ns.take j.toNat).map V.int)))) : rSlG K (.ref a) none (some j) H Q :=
  .inl ⟨a, ns.map V.int, rfl, h, fun p hp => by rw [cutV_to ns hj]; exact q p hp⟩
theorem dpAll_ints {ns : List Int} : DpAll K H (ns.map V.int) (ns.map PyData.int) := by
  induction ns with
  | nil => exact .nil
  | cons a r ih => exact .cons (.int a) ih
theorem dp_ints {b : Bool} {a : Addr} {ns : List Int} (h : Sq b K H a (ns.map V.int)) : Dp K H (.ref a) (if b then .list (ns.map PyData.int) else .tuple (ns.map PyData.int)) := by
  cases b
  · exact .tup h dpAll_ints
  · exact .lst h dpAll_ints
theorem canLay_ints (ns : List Int) : PyData.canLayAll0 (ns.map PyData.int) = true := by
  induction ns with
  | nil => rfl
  | cons a r ih => simp only [List.map_cons, PyData.canLayAll0, PyData.canLay0, ih, Bool.and_self]
theorem depth_ints (ns : List Int) : PyData.depthAll (ns.map PyData.int) = 0 := by
  induction ns with
  | nil => rfl
  | cons a r ih => simp only [List.map_cons, PyData.depthAll, PyData.depth, ih, Nat.max_self]
theorem shaped_ints (ns : List Int) : SeqAt.shaped (.list (ns.map PyData.int)) = true := by
  simp [SeqAt.shaped, PyData.canLay0, PyData.depth, canLay_ints, depth_ints]
theorem shaped_intsT (ns : List Int) : SeqAt.shaped (.tuple (ns.map PyData.int)) = true := by
  simp [SeqAt.shaped, PyData.canLay0, PyData.depth, canLay_ints, depth_ints]
theorem eqvAll_ints (ns : List Int) : PyData.eqvAll (ns.map PyData.int) (ns.map PyData.int) = true := by
  induction ns with
  | nil => rfl
  | cons a r ih => simp only [List.map_cons, PyData.eqvAll, PyData.eqv, ih, beq_self_eq_true, Bool.and_self]
theorem w_neInts {a a' : Addr} {ns : List Int} (h : Sq true K H a (ns.map V.int)) (h' : Sq true K H a' (ns.map V.int)) (q : Q (.bl false) H) : rNeG K (.ref a) (.ref a') H Q :=
  w_neD (dp_ints h) (dp_ints h') (shaped_ints ns) (shaped_ints ns) (by
    have e : PyData.eqv (.list (ns.map PyData.int)) (.list (ns.map PyData.int)) = true := by simp only [PyData.eqv, eqvAll_ints]
    show Q (.bl (!PyData.eqv (.list (ns.map PyData.int)) (.list (ns.map PyData.int)))) H
    rw [e]; exact q)
theorem flat_ints (ns : List Int) : (ns.map V.int).all flatV = true := by
  induction ns with
  | nil => rfl
  | cons a r ih => simp only [List.map_cons, List.all_cons, ih, Bool.and_true]; rfl
theorem eqV_int (i j : Int) : eqV (.int i) (.int j) = (i == j) := rfl
theorem w_maxI {a : Addr} {ns : List Int} (h : Sq true K H a (ns.map V.int)) (hp : 0 < ns.length) (q : ∀ m, m ∈ ns → (∀ y, y ∈ ns → y ≤ m) → Q (.int m) H) : rMax K [.ref a] H Q := ⟨a, ns, rfl, h, hp, q⟩
theorem w_indexI {a : Addr} {ns : List Int} {z : Int} {j : Nat} (h : Sq true K H a (ns.map V.int)) (hj : j < ns.length) (e : nth ns (j : Nat) = z) (hno : ∀ m : Nat, m < j → nth ns (m : Nat) ≠ z) (q : Q (.int (j : Nat)) H) : rIndex K (.ref a) [.int z] H Q := by
  have hg : ∀ (m : Nat), m < ns.length → (ns.map V.int)[m]? = some (.int (nth ns (m : Nat))) := fun m hm => by
    rw [List.getElem?_map, List.getElem?_eq_getElem hm, nth_nat, List.getD_eq_getElem?_getD, List.getElem?_eq_getElem hm]
    rfl
  refine ⟨a, ns.map V.int, .int z, j, .int z, rfl, rfl, h, rfl, flat_ints ns, by rw [hg j hj, e], by rw [eqV_int]; exact beq_self_eq_true z, fun m z' hm hz => ?_, q⟩
  rw [hg m (by omega)] at hz
  cases hz
  rw [eqV_int]
  exact beq_eq_false_iff_ne.mpr (hno m hm)
end
end L2

namespace L2
open PySem PySem.Spec PyProof.Rows
/-! ### zip of two, each a list (true) or a tuple (false) -/
def ItOf (b : Bool) (h : Heap) (it a : Addr) (i : Nat) : Prop := match b with
  | true => h.IsListIter it a i
  | false => h.IsTupleIter it a i
def SrcOf (b : Bool) (h : Heap) (a : Addr) (items : Array Value) : Prop := match b with
  | true => h.IsList a items
  | false => h.IsTuple a items
theorem ItOf.at {b : Bool} {h h' : Heap} {it a : Addr} {i : Nat} (x : ItOf b h it a i) (k : ∀ o, h.get? it = some o → h'.get? it = some o) : ItOf b h' it a i := by
  cases b with
  | true => exact Heap.IsListIter.at (show h.IsListIter it a i from x) k
  | false => exact Heap.IsTupleIter.at (show h.IsTupleIter it a i from x) k
theorem ItOf.obj {b : Bool} {h : Heap} {it a : Addr} {i : Nat} (x : ItOf b h it a i) : ∃ o, h.get? it = some o ∧ ∀ v, o.data ≠ .cell v := by
  cases b with
  | true => obtain ⟨o, e, _, d⟩ := (show h.IsListIter it a i from x); exact ⟨o, e, fun v q => by rw [d] at q; cases q⟩
  | false => obtain ⟨o, e, _, d⟩ := (show h.IsTupleIter it a i from x); exact ⟨o, e, fun v q => by rw [d] at q; cases q⟩
theorem SrcOf.ne {b : Bool} {h : Heap} {a it : Addr} {items : Array Value} {b' : Bool} {a' : Addr} {i : Nat} (p : SrcOf b h a items) (q : ItOf b' h it a' i) : a ≠ it := by
  intro e
  subst e
  have hp : ∃ o, h.get? a = some o ∧ (o.cls = .type "list" ∨ o.cls = .type "tuple") := by
    cases b with
    | true => obtain ⟨o, ho, hc, _⟩ := (show h.IsList a items from p); exact ⟨o, ho, .inl hc⟩
    | false => obtain ⟨o, ho, hc, _⟩ := (show h.IsTuple a items from p); exact ⟨o, ho, .inr hc⟩
  have hq : ∃ o, h.get? a = some o ∧ (o.cls = .type "list_iterator" ∨ o.cls = .type "tuple_iterator") := by
    cases b' with
    | true => obtain ⟨o, ho, hc, _⟩ := (show h.IsListIter a a' i from q); exact ⟨o, ho, .inl hc⟩
    | false => obtain ⟨o, ho, hc, _⟩ := (show h.IsTupleIter a a' i from q); exact ⟨o, ho, .inr hc⟩
  obtain ⟨o, ho, hc⟩ := hp
  obtain ⟨o', ho', hc'⟩ := hq
  rw [ho] at ho'
  cases ho'
  rcases hc with hc | hc <;> rcases hc' with hc' | hc' <;> (rw [hc] at hc'; exact absurd hc' (by decide))
theorem Inv.src {X : Cx} {pins : List (Addr × Obj)} {σ : St} {H : Hp} {s : Shared} {b : Bool} {a : Addr} {xs : List V} (I : Inv X pins σ H s) (h : Sq b X.K H a xs) : ∃ its : List Value, Vals xs its ∧ SrcOf b s.heap a its.toArray ∧ a < s.heap.objs.size := by
  cases b with
  | true =>
    obtain ⟨its, rv, p, _⟩ := I.list h
    exact ⟨its, rv, p.isList, p.lt⟩
  | false =>
    obtain ⟨its, rv, p, _⟩ := I.tuple h
    obtain ⟨o, ho, _⟩ := id p
    exact ⟨its, rv, p, Heap.lt_size ho⟩
theorem Inv.sq_inj {X : Cx} {pins : List (Addr × Obj)} {σ : St} {H : Hp} {s : Shared} {b : Bool} {a : Addr} {xs ys : List V} (I : Inv X pins σ H s) (h : Sq b X.K H a xs) (h' : Sq b X.K H a ys) : xs = ys := by
  cases b with
  | true => exact I.list_inj h h'
  | false => exact I.tuple_inj h h'
theorem drawsOf {prog : Program} {w : World} {A : Around} (b : Bool) (hh : A.handled = none) (it a : Addr) (hne : a ≠ it) (items : Array Value) :
    Draws prog w A it [it, a] items.size (fun i v => items[i]? = some v) (fun i h => ItOf b h it a i ∧ SrcOf b h a items) := by
  cases b with
  | true => exact Draws.list hh it a hne items
  | false => exact Draws.tuple hh it a hne items
def ItzS (b1 b2 : Bool) (K : PySem.W.Frag) (a b : Addr) : It :=
  ⟨fun i H => ∃ (xs ys : List V) (x y : V), Sq b1 K H a xs ∧ Sq b2 K H b ys ∧ xs[i]? = some x ∧ ys[i]? = some y,
    fun i H v H' => ∃ T x y, v = .ref T ∧ H T = none ∧ H' = upd H T (.tup [x, y]) ∧ (∀ xs, Sq b1 K H a xs → xs[i]? = some x) ∧ ∀ ys, Sq b2 K H b ys → ys[i]? = some y,
    fun i H => ∃ xs ys : List V, Sq b1 K H a xs ∧ Sq b2 K H b ys ∧ i ≤ xs.length ∧ i ≤ ys.length ∧ (xs.length ≤ i ∨ ys.length ≤ i)⟩
theorem turn_zipS {P : Program} {w : World} {K : PySem.W.Frag} {elts : List Expr} {kk : Nat} {tpos : Pos} (b1 b2 : Bool) {a b z TI TO i1 i2 : Addr} (D : ZipSep2 z TI TO i1 i2 [i1, a] [i2, b]) :
    Turn P w K (.Tuple elts kk tpos) (ItzS b1 b2 K a b) [z, TI, TO, i1, i2] z (fun i h => IsZip h z TI TO .none ∧ IsPair h TI (.ref i1) (.ref i2) ∧ (∃ x y, IsPair h TO x y) ∧ ItOf b1 h i1 a i ∧ ItOf b2 h i2 b i) where
  mem := by simp
  obj := fun i h st c hc => by
    obtain ⟨hz, hTI, ⟨x, y, hTO⟩, h1, h2⟩ := st
    have e' : c = z ∨ c = TI ∨ c = TO ∨ c = i1 ∨ c = i2 := by simpa using hc
    rcases e' with q | q | q | q | q
    · rw [q]; exact ⟨_, hz, fun v q => nomatch q⟩
    · rw [q]; exact ⟨_, hTI, fun v q => nomatch q⟩
    · rw [q]; exact ⟨_, hTO, fun v q => nomatch q⟩
    · rw [q]; exact h1.obj
    · rw [q]; exact h2.obj
  keep := fun i h h' st k => by
    obtain ⟨hz, hTI, ⟨x, y, hTO⟩, h1, h2⟩ := st
    exact ⟨k z (by simp) _ hz, k TI (by simp) _ hTI, ⟨x, y, k TO (by simp) _ hTO⟩, h1.at fun o q => k i1 (by simp) o q, h2.at fun o q => k i2 (by simp) o q⟩
  item := by
    intro X hP hw hK hc i pins s σ H E I hf st hg
    subst hP hw hK
    obtain ⟨hz, hTI, ⟨x0, y0, hTO⟩, h1, h2⟩ := st
    obtain ⟨xs, ys, x, y, hqx, hqy, hx, hy⟩ := hg
    obtain ⟨its, rv, p, la⟩ := I.src hqx
    obtain ⟨its2, rv2, p2, lb⟩ := I.src hqy
    obtain ⟨u, hu, ru⟩ := rv.get hx
    obtain ⟨u2, hu2, ru2⟩ := rv2.get hy
    have hzl : z < s.heap.objs.size := Heap.lt_size hz
    have hl1 : i < its.toArray.size := by simpa using (List.getElem?_eq_some_iff.mp hu).1
    have hl2 : i < its2.toArray.size := by simpa using (List.getElem?_eq_some_iff.mp hu2).1
    have hin : X.A.in1.handled = none := I.ok.hd hc
    refine wpAny_pyNext_zipD2_item D (drawsOf b1 hin i1 a (p.ne h1) its.toArray) (drawsOf b2 hin i2 b (p2.ne h2) its2.toArray) hz hTI hTO ⟨h1, p⟩ ⟨h2, p2⟩ hl1 hl2 fun w1 w2 h' tk e1 e2 z' TO' st1 st2 hT hsz hk => ?_
    have ew1 : w1 = u := by
      have g1 : its.toArray[i]? = some w1 := e1
      have g2 : its.toArray[i]? = some u := by simpa using hu
      rw [g1] at g2
      exact Option.some.inj g2
    have ew2 : w2 = u2 := by
      have g1 : its2.toArray[i]? = some w2 := e2
      have g2 : its2.toArray[i]? = some u2 := by simpa using hu2
      rw [g1] at g2
      exact Option.some.inj g2
    subst ew1 ew2
    refine ⟨_, rfl, wpAny_letOwnedTupleGo_zip (s := { s with heap := h', toks := tk }) z' fun h'' z'' sb => ?_⟩
    have hT2 : h''.get? s.heap.objs.size = some { cls := .type "tuple", data := .seq #[w1, w2] } := (sb.2 _ (Nat.ne_of_gt hzl)).trans hT
    have new : ObjOk X.prog X.w (upd H s.heap.objs.size (.tup [x, y])) h'' s.heap.objs.size (.tup [x, y]) :=
      ⟨by show 2 ≤ sizeLine; decide, [w1, w2], .cons ru (.cons ru2 .nil), ⟨_, hT2, rfl, _, rfl⟩⟩
    have I1 : Inv X pins σ (upd H s.heap.objs.size (.tup [x, y])) { s with heap := h'', toks := tk } :=
      I.turnedNew (t' := tk) (ch := [z, TI, TO, i1, i2]) (fun c o hb q => (sb.2 c (fun q' => hb (by simp [q']))).trans (hk c o (fun q' => hb (by simp [q'])) (fun q' => hb (by simp [q'])) (fun q' => hb (by simp [q'])) (fun q' => hb (by simp [q'])) q)) hf (Nat.le_refl _) new
    refine ⟨.ref s.heap.objs.size, _, I1, rfl, ⟨_, x, y, rfl, I.hok.fresh (Nat.le_refl _), rfl, fun l hl => by rw [I.sq_inj hl hqx]; exact hx, fun l hl => by rw [I.sq_inj hl hqy]; exact hy⟩, ⟨z'', ?_, ⟨w1, w2, ?_⟩, ?_, ?_⟩, fun c hcm => ?_⟩
    · exact (sb.2 _ D.TIz).trans (hk _ _ D.TIz D.TITO D.TIi1 D.TIi2 hTI)
    · exact (sb.2 _ D.TOz).trans TO'
    · exact st1.1.at fun o q => (sb.2 _ (Ne.symm D.zi1)).trans q
    · exact st2.1.at fun o q => (sb.2 _ (Ne.symm D.zi2)).trans q
    · have hlt : c < s.heap.objs.size := by
        have e' : c = z ∨ c = TI ∨ c = TO ∨ c = i1 ∨ c = i2 := by simpa using hcm
        rcases e' with q | q | q | q | q
        · rw [q]; exact hzl
        · rw [q]; exact Heap.lt_size hTI
        · rw [q]; exact Heap.lt_size hTO
        · rw [q]; obtain ⟨_, e1, _⟩ := h1.obj; exact Heap.lt_size e1
        · rw [q]; obtain ⟨_, e2, _⟩ := h2.obj; exact Heap.lt_size e2
      rw [upd_ne (Nat.ne_of_lt hlt)]
      exact (hf c hcm).1
  done := by
    intro X hP hw hK hc i pins s σ H E I hf st hg
    subst hP hw hK
    obtain ⟨hz, hTI, ⟨x0, y0, hTO⟩, h1, h2⟩ := st
    obtain ⟨xs, ys, hqx, hqy, le1, le2, hend⟩ := hg
    obtain ⟨its, rv, p, _⟩ := I.src hqx
    obtain ⟨its2, rv2, p2, _⟩ := I.src hqy
    have l1 := rv.length
    have l2 := rv2.length
    have hin : X.A.in1.handled = none := I.ok.hd hc
    refine wpAny_pyNext_zipD2_end D (drawsOf b1 hin i1 a (p.ne h1) its.toArray) (drawsOf b2 hin i2 b (p2.ne h2) its2.toArray) hz hTI hTO ⟨h1, p⟩ ⟨h2, p2⟩ (by simp; omega) (by simp; omega) (by simp; omega) fun h' tk hk => ⟨rfl, ?_⟩
    exact I.turnedL (t' := tk) (ch := [z, TI, TO, i1, i2]) (fun c o hb q => hk c o (fun q' => hb (by simp [q'])) (fun q' => hb (by simp [q'])) (fun q' => hb (by simp [q'])) (fun q' => hb (by simp [q'])) q) hf
  self := fun A i s Q E st h => wpAny_pyIter_zip st.1 h
theorem begins_src (b : Bool) (a : Addr) (items : Array Value) : ∃ o, Begins (.ref a) o (fun h => SrcOf b h a items) ∧ ∀ (h : Heap) (it : Addr), h.get? it = some o → ItOf b h it a 0 := by
  cases b with
  | true => exact ⟨_, begins_list a items, fun h it e => ⟨_, e, rfl, rfl⟩⟩
  | false => exact ⟨_, begins_tuple a items, fun h it e => ⟨_, e, rfl, rfl⟩⟩
def iZipS (K : PySem.W.Frag) (ta : TA) : TI := fun σ H R => ta σ H fun vs H1 => ∃ a b, vs = [.ref a, .ref b] ∧ ∃ b1 b2 xs ys, Sq b1 K H1 a xs ∧ Sq b2 K H1 b ys ∧ R (ItzS b1 b2 K a b) H1
theorem pi_zipS {X : Cx} {e e2 : Expr} {ta : TA} {p pos tpos : Pos} {elts : List Expr} {kk : Nat} (hg : Gl X "zip") (hm : X.mg "zip" = none) (ha : PA X [e, e2] ta)
    (hs : starEach [e, e2] X.env = (false, eval e X.env) :: starEach [e2] X.env := by rfl) (hpl : (backTo pos (starEach [e2] X.env)).any (·.1) = false := by rfl) :
    PI X (.Tuple elts kk tpos) (.Call (.Name "zip" p) [e, e2] [] pos) (iZipS X.K ta) := by
  refine ⟨fun pins s σ H R I h => ?_⟩
  refine Call_ (ld_blt I hg hm PyProof.Rows.boot_zip (PyProof.Rows.callWith_type1 (thn (ha.run pos pins s σ H _ I h) fun us s1 ⟨vs, H1, I1, r1, q1⟩ => ?_) hs hpl))
  obtain ⟨a, b, ex, b1, b2, xs, ys, hqx, hqy, q⟩ := q1
  subst ex
  cases r1 with
  | cons r rr =>
    cases rr with
    | cons r' rr =>
      cases rr
      cases r
      cases r'
      obtain ⟨its, rv, p1, la⟩ := I1.src hqx
      obtain ⟨its2, rv2, p2, lb⟩ := I1.src hqy
      obtain ⟨o1, B1, k1⟩ := begins_src b1 a its.toArray
      obtain ⟨o2, B2, k2⟩ := begins_src b2 b its2.toArray
      refine zip_begins2 B1 B2 p1 p2 fun h' hz hTI hTO g1 g2 hsz hk => wpAny_pyIter_zip hz ?_
      have I2 : Inv X pins σ H1 { s1 with heap := h' } := I1.kept (t' := s1.toks) hk
      refine ⟨s1.heap.objs.size + 4, [s1.heap.objs.size + 4, s1.heap.objs.size + 2, s1.heap.objs.size + 3, s1.heap.objs.size, s1.heap.objs.size + 1], _, _, H1, rfl, I2,
        turn_zipS b1 b2 (zip_sep2 (N := s1.heap.objs.size) (fp1 := [a]) (fp2 := [b]) (fun c hc => by rw [List.mem_singleton.mp hc]; exact la) (fun c hc => by rw [List.mem_singleton.mp hc]; exact lb)), ⟨hz, hTI, ⟨_, _, hTO⟩, k1 _ _ g1, k2 _ _ g2⟩, fun c hcm => ?_, q⟩
      have e' : c = s1.heap.objs.size + 4 ∨ c = s1.heap.objs.size + 2 ∨ c = s1.heap.objs.size + 3 ∨ c = s1.heap.objs.size ∨ c = s1.heap.objs.size + 1 := by simpa using hcm
      have hle : s1.heap.objs.size ≤ c := by
        rcases e' with z | z | z | z | z
        · rw [z]; exact Nat.le_add_right _ _
        · rw [z]; exact Nat.le_add_right _ _
        · rw [z]; exact Nat.le_add_right _ _
        · rw [z]; exact Nat.le_refl _
        · rw [z]; exact Nat.le_add_right _ _
      exact I1.fpOk hle (I1.hok.fresh hle)
theorem walk_zipS {b1 b2 : Bool} {K : PySem.W.Frag} {a b : Addr} {xs ys : List V} (hn : xs.length = ys.length) : Walk (ItzS b1 b2 K a b) xs.length (fun H => Sq b1 K H a xs ∧ Sq b2 K H b ys) (YPair (fun i => xs[i]?) (fun i => ys[i]?)) := by
  refine ⟨fun i _ hi q => ?_, fun _ q => ⟨xs, ys, q.1, q.2, Nat.le_refl _, by omega, .inl (Nat.le_refl _)⟩, fun i H v H' _ q y => ?_⟩
  · exact ⟨xs, ys, xs[i], ys[i], q.1, q.2, by simp [hi], by simp [show i < ys.length by omega]⟩
  · obtain ⟨T, x, z, h1, h2, h3, h4, h5⟩ := y
    exact ⟨T, x, z, h1, h2, h3, h4 xs q.1, h5 ys q.2⟩
section
variable {K : PySem.W.Frag} {σ : St} {H : Hp} {t : TS} {D : Ends} {g : TG} {f bk ct : St → Hp → Prop} {rt : VK}
theorem w_iZipS {ta : TA} {R : It → Hp → Prop} (q : ta σ H fun vs H1 => ∃ a b, vs = [.ref a, .ref b] ∧ ∃ b1 b2 xs ys, Sq b1 K H1 a xs ∧ Sq b2 K H1 b ys ∧ R (ItzS b1 b2 K a b) H1) : iZipS K ta σ H R := q
theorem l_zip {b1 b2 : Bool} {a b : Addr} (xs ys : List V) (hn : xs.length = ys.length) (Pv : Nat → St → Hp → Prop) (hx : Sq b1 K H a xs) (hy : Sq b2 K H b ys) (h0 : Pv 0 σ H) (hG : ∀ i σ H, i ≤ xs.length → Pv i σ H → Sq b1 K H a xs ∧ Sq b2 K H b ys)
    (hs : ∀ (i : Nat) x y (T : Addr) σ' H', i < xs.length → xs[i]? = some x → ys[i]? = some y → Pv i σ' H' → H' T = none → g (.ref T) σ' (upd H' T (.tup [x, y])) fun σ2 H2 => t ⟨Pv (i + 1), rt, f, Pv (i + 1)⟩ σ2 H2) (hd : ∀ σ' H', Pv xs.length σ' H' → f σ' H') :
    ∃ a' b', [V.ref a, V.ref b] = [.ref a', .ref b'] ∧ ∃ b1 b2 xs ys, Sq b1 K H a' xs ∧ Sq b2 K H b' ys ∧ LoopOk (ItzS b1 b2 K a' b') g t ⟨f, rt, bk, ct⟩ σ H := by
  refine ⟨a, b, rfl, b1, b2, xs, ys, hx, hy, l_it (walk_zipS hn) Pv h0 hG (fun i x σ' H1 H2 hi hp hy => ?_) hd⟩
  obtain ⟨T, u, v, rfl, hT, e, hu, hv⟩ := hy
  subst e
  exact hs i u v T σ' _ hi hu hv hp hT
end

/-! ### list comprehensions -/
/-- what a comprehension asks of its walk J -/
def CompOk (J : It) (g : TG) (tt : TT) (te : TE) (vs : List Nat) (σ : St) (H1 : Hp) (Q : VK) : Prop := ∀ D, H1 D = none → ∃ W : Nat → Nat → Hp → Prop, (∃ m, W 0 m (upd H1 D (.lst []))) ∧ ∀ i m H, W i m H →
  (J.stop i H ∧ Q (.ref D) H) ∨ (J.go i H ∧ ∃ Nx : Hp → Prop, (∀ H', Nx H' → ∃ m', m' < m ∧ W (i + 1) m' H') ∧ ∀ x H', J.yld i H x H' → g x (wipe σ vs) H' fun σ2 H2 => wipe σ2 vs = wipe σ vs ∧ tt σ2 H2 fun b H3 =>
    if b = true then te σ2 H3 fun y H4 => ∃ acc, H4 D = some (.lst acc) ∧ acc.length < sizeLine ∧ Nx (upd H4 D (.lst (acc ++ [y]))) else Nx H3)
/-- the heap without what stands at D -/
def hide (D : Addr) (H : Hp) : Hp := fun b => if b = D then none else H b
theorem hide_at (D : Addr) (H : Hp) : hide D H D = none := if_pos rfl
theorem hide_ne {D b : Addr} {H : Hp} (h : b ≠ D) : hide D H b = H b := if_neg h
theorem hide_same (D : Addr) (H : Hp) : Same (hide D H) H := fun b o e => by
  by_cases h : b = D
  · subst h; rw [hide_at] at e; cases e
  · rw [hide_ne h] at e; exact e
theorem same_hide {D : Addr} {H H' : Hp} (e : Same H H') (h : H D = none) : Same H (hide D H') := fun b o q => by
  rw [hide_ne (ne_of_none q h)]
  exact e b o q
theorem hide_upd (D : Addr) (H : Hp) (o : HO) : hide D (upd H D o) = hide D H := by
  funext b
  by_cases h : b = D
  · subst h; rw [hide_at, hide_at]
  · rw [hide_ne h, hide_ne h, upd_ne h]
theorem hide_mono {D : Addr} {H H' : Hp} (e : Same H H') : Same (hide D H) (hide D H') := fun b o q => by
  by_cases h : b = D
  · subst h; rw [hide_at] at q; cases q
  · rw [hide_ne h] at q ⊢; exact e b o q
/-- no tuple, nothing frozen -/
def NTup : Option HO → Prop
  | some (.tup _) => False
  | some (.frz _ _) => False
  | _ => True
theorem NTup.lst {H : Hp} {D : Addr} {acc : List V} (h : H D = some (.lst acc)) : NTup (H D) := by rw [h]; trivial
theorem NTup.ins {H : Hp} {D C dx : Addr} {fs : List (Str × V)} (h : H D = some (.ins C dx fs)) : NTup (H D) := by rw [h]; trivial
theorem sq_hide {K : PySem.W.Frag} {D p : Addr} {H : Hp} {xs : List V} (hD : NTup (H D)) (h : Sq false K H p xs) : Sq false K (hide D H) p xs := by
  have h : SqT K H p xs := h
  rcases h with (h | ⟨o, h⟩) | h
  · exact .inl (.inl (by rw [hide_ne (fun e => by rw [← e, h] at hD; exact hD)]; exact h))
  · exact .inl (.inr ⟨o, by rw [hide_ne (fun e => by rw [← e, h] at hD; exact hD)]; exact h⟩)
  · exact .inr h
section
variable {K : PySem.W.Frag} {σ : St} {H : Hp} {tt : TT} {te : TE} {g : TG} {vs : List Nat} {Q : VK}
theorem w_lc {wi : TI} (q : wi σ H fun J H1 => CompOk J g tt te vs σ H1 Q) : tLc wi g tt te vs σ H Q := q
/-- every turn gives one item: R of the turn, the item and the heap without the new list -/
theorem l_comp {J : It} {n : Nat} {G : Hp → Prop} {Y : Nat → Hp → V → Hp → Prop} (w : Walk J n G Y) (hz : n < sizeLine) (R : Nat → V → Hp → Prop) (hR : ∀ i y H1 H2, Same H1 H2 → R i y H1 → R i y H2) (hG : ∀ H', Same H H' → G H')
    (hY : ∀ i x H1 H2, i < n → Y i H1 x H2 → Same H1 H2)
    (hs : ∀ i x H1 H2 D acc (N : VK), i < n → Same H H1 → H D = none → H1 D = some (.lst acc) → Y i H1 x H2 → Same H1 H2 → (∀ y H4, Same H2 H4 → R i y (hide D H4) → N y H4) → g x (wipe σ vs) H2 fun σ2 H3 => wipe σ2 vs = wipe σ vs ∧ te σ2 H3 N)
    (k : ∀ D H' ys, H D = none → Same H H' → H' D = some (.lst ys) → ys.length = n → (∀ (i : Nat) y, ys[i]? = some y → R i y (hide D H')) → Q (.ref D) H') : CompOk J g tYes te vs σ H Q := by
  intro D hD
  refine lc_it w (fun i H' => ∃ ys, H' D = some (.lst ys) ∧ ys.length = i ∧ Same H H' ∧ ∀ (j : Nat) y, ys[j]? = some y → R j y (hide D H')) ?_ (fun i H' _ ⟨ys, _, _, sm, _⟩ => hG H' sm) ?_ ?_
  · exact ⟨[], upd_same, rfl, Same.new hD, fun j y e => by simp at e⟩
  · rintro i x H1 H2 hi ⟨ys, e1, e2, sm, hr⟩ hy
    have s12 := hY i x H1 H2 hi hy
    refine hs i x H1 H2 D ys _ hi sm hD e1 hy s12 fun y H4 s24 r4 => ?_
    have e4 : H4 D = some (.lst ys) := s24 _ _ (s12 _ _ e1)
    refine ⟨ys, e4, by omega, ys ++ [y], upd_same, by rw [List.length_append, e2]; rfl, Same.mut ((sm.trans s12).trans s24) hD, fun j z ez => ?_⟩
    rw [hide_upd]
    by_cases hj : j < ys.length
    · rw [List.getElem?_append_left hj] at ez
      exact hR _ _ _ _ (hide_mono (s12.trans s24)) (hr j z ez)
    · have hlen := (List.getElem?_eq_some_iff.mp ez).1
      rw [List.length_append] at hlen
      have ej : j = ys.length := by
        have : j < ys.length + 1 := hlen
        omega
      subst ej
      rw [List.getElem?_append_right (Nat.le_refl _), Nat.sub_self] at ez
      have ey : y = z := Option.some.inj ez
      subst ey
      rw [e2]
      exact r4
  · rintro H' ⟨ys, e1, e2, sm, hr⟩
    exact k D H' ys hD sm e1 e2 hr
/-- over a list or a tuple -/
theorem l_compS {b : Bool} {a : Addr} {j : Nat} (xs : List V) (hx : Sq b K H a xs) (hz : xs.length < sizeLine) (R : Nat → V → Hp → Prop) (hR : ∀ i y H1 H2, Same H1 H2 → R i y H1 → R i y H2)
    (hw : ∀ x : V, wipe ((wipe σ vs).set j (some x)) vs = wipe σ vs)
    (hs : ∀ (i : Nat) x H1 D acc (N : VK), i < xs.length → xs[i]? = some x → Same H H1 → H D = none → H1 D = some (.lst acc) → (∀ y H4, Same H1 H4 → R i y (hide D H4) → N y H4) → te ((wipe σ vs).set j (some x)) H1 N)
    (k : ∀ D H' ys, H D = none → Same H H' → H' D = some (.lst ys) → ys.length = xs.length → (∀ (i : Nat) y, ys[i]? = some y → R i y (hide D H')) → Q (.ref D) H') :
    ∃ a', V.ref a = .ref a' ∧ ((∃ xs, SqL K H a' xs) ∧ CompOk (Itl K a') (gName j) tYes te vs σ H Q ∨ (∃ xs, SqT K H a' xs) ∧ CompOk (Itt K a') (gName j) tYes te vs σ H Q) := by
  refine ⟨a, rfl, ?_⟩
  cases b with
  | true =>
    refine .inl ⟨⟨xs, hx⟩, l_comp (walk_list (xs := xs)) hz R hR (fun H' sm => sm.sq (b := true) hx) (fun i x H1 H2 hi hy => by rw [hy.1]; exact Same.refl _) (fun i x H1 H2 D acc N hi sm hD e1 hy s12 hN => ?_) k⟩
    obtain ⟨e, ex⟩ := hy
    subst e
    exact ⟨hw x, hs i x _ D acc N hi ex sm hD e1 hN⟩
  | false =>
    refine .inr ⟨⟨xs, hx⟩, l_comp (walk_tup (xs := xs)) hz R hR (fun H' sm => sm.sq (b := false) hx) (fun i x H1 H2 hi hy => by rw [hy.1]; exact Same.refl _) (fun i x H1 H2 D acc N hi sm hD e1 hy s12 hN => ?_) k⟩
    obtain ⟨e, ex⟩ := hy
    subst e
    exact ⟨hw x, hs i x _ D acc N hi ex sm hD e1 hN⟩
/-- over range(n) -/
theorem l_compR {n : Int} {j : Nat} (h1 : -(2 ^ 62) ≤ n) (h2 : n < 16000000) (R : Nat → V → Hp → Prop) (hR : ∀ i y H1 H2, Same H1 H2 → R i y H1 → R i y H2)
    (hw : ∀ x : V, wipe ((wipe σ vs).set j (some x)) vs = wipe σ vs)
    (hs : ∀ (i : Nat) H1 D acc (N : VK), (i : Int) < n → Same H H1 → H D = none → H1 D = some (.lst acc) → (∀ y H4, Same H1 H4 → R i y (hide D H4) → N y H4) → te ((wipe σ vs).set j (some (.int (i : Int)))) H1 N)
    (k : ∀ D H' ys, H D = none → Same H H' → H' D = some (.lst ys) → ys.length = n.toNat → (∀ (i : Nat) y, ys[i]? = some y → R i y (hide D H')) → Q (.ref D) H') :
    ∃ j' : Int, [V.int n] = [.int j'] ∧ -(2 ^ 62) ≤ j' ∧ j' < 2 ^ 62 ∧ CompOk (Itr 0 j'.toNat) (gName j) tYes te vs σ H Q := by
  refine ⟨n, rfl, h1, by omega, l_comp (walk_range (lo := 0) (n := n.toNat)) (by rw [sizeLine_eq]; omega) R hR (fun _ _ => trivial) (fun i x H1 H2 hi hy => by rw [hy.1]; exact Same.refl _) (fun i x H1 H2 D acc N hi sm hD e1 hy s12 hN => ?_) k⟩
  obtain ⟨e, ex⟩ := hy
  subst e ex
  show wipe ((wipe σ vs).set j (some (.int (0 + (i : Int))))) vs = wipe σ vs ∧ te ((wipe σ vs).set j (some (.int (0 + (i : Int))))) _ N
  rw [Int.zero_add]
  exact ⟨hw _, hs i _ D acc N (by omega) sm hD e1 hN⟩
/-- over zip of two -/
theorem l_compZ {b1 b2 : Bool} {a b : Addr} {i1 i2 nn : Nat} (xs ys : List V) (hn : xs.length = ys.length) (hx : Sq b1 K H a xs) (hy : Sq b2 K H b ys) (hz : xs.length < sizeLine) (R : Nat → V → Hp → Prop) (hR : ∀ i y H1 H2, Same H1 H2 → R i y H1 → R i y H2) (hnn : nn = 2)
    (hw : ∀ x y : V, wipe (((wipe σ vs).set i1 (some x)).set i2 (some y)) vs = wipe σ vs)
    (hs : ∀ (i : Nat) x y H1 D acc (N : VK), i < xs.length → xs[i]? = some x → ys[i]? = some y → Same H H1 → H D = none → H1 D = some (.lst acc) → (∀ y H4, Same H1 H4 → R i y (hide D H4) → N y H4) → te (((wipe σ vs).set i1 (some x)).set i2 (some y)) H1 N)
    (k : ∀ D H' ys, H D = none → Same H H' → H' D = some (.lst ys) → ys.length = xs.length → (∀ (i : Nat) y, ys[i]? = some y → R i y (hide D H')) → Q (.ref D) H') :
    ∃ a' b', [V.ref a, V.ref b] = [.ref a', .ref b'] ∧ ∃ b1 b2 xs ys, Sq b1 K H a' xs ∧ Sq b2 K H b' ys ∧ CompOk (ItzS b1 b2 K a' b') (gTup K nn (gCons (gName i1) (gCons (gName i2) gNil))) tYes te vs σ H Q := by
  subst hnn
  refine ⟨a, b, rfl, b1, b2, xs, ys, hx, hy, l_comp (walk_zipS hn) hz R hR (fun H' sm => ⟨sm.sq hx, sm.sq hy⟩) (fun i x H1 H2 hi hy => ?_) (fun i x H1 H2 D acc N hi sm hD e1 hy s12 hN => ?_) k⟩
  · obtain ⟨T, u, v, rfl, hT, e, hu, hv⟩ := hy
    subst e
    exact Same.new hT
  · obtain ⟨T, u, v, rfl, hT, e, hu, hv⟩ := hy
    subst e
    exact w_pair (Sq.tup upd_same) ⟨hw u v, hs i u v _ D acc N hi hu hv (sm.trans s12) hD (s12 _ _ e1) hN⟩
end
end L2

namespace L2
open PySem PySem.Spec PyProof.Rows
/-! ### data over the heap: relations that new objects leave as they are -/
abbrev Rep (α : Type) := Hp → V → α → Prop
def RMono {α : Type} (R : Rep α) : Prop := ∀ H H' v x, Same H H' → R H v x → R H' v x
/-- no list in it: what stands at a list may be left out -/
def RTup {α : Type} (R : Rep α) : Prop := ∀ H D v x, NTup (H D) → R H v x → R (hide D H) v x
def RLst {α : Type} (R : Rep α) : Prop := ∀ H D v x ys, H D = some (.lst ys) → R H v x → R (hide D H) v x
theorem RTup.lst {α : Type} {R : Rep α} (h : RTup R) : RLst R := fun H D v x _ e r => h H D v x (NTup.lst e) r
def RInt : Rep Int := fun _ v i => v = .int i
/-- numbers in a list (true) or a tuple (false) -/
def RVec (b : Bool) (K : PySem.W.Frag) : Rep (List Int) := fun H v ns => ∃ a, v = .ref a ∧ Sq b K H a (ns.map V.int)
def RSeq (b : Bool) (K : PySem.W.Frag) {α : Type} (R : Rep α) : Rep (List α) := fun H v xs => ∃ a vs, v = .ref a ∧ Sq b K H a vs ∧ vs.length = xs.length ∧ ∀ (i : Nat) y x, vs[i]? = some y → xs[i]? = some x → R H y x
def RPair (K : PySem.W.Frag) {α β : Type} (R : Rep α) (S : Rep β) : Rep (α × β) := fun H v p => ∃ a x y, v = .ref a ∧ Sq false K H a [x, y] ∧ R H x p.1 ∧ S H y p.2
section
variable {K : PySem.W.Frag} {α β : Type} {R : Rep α} {S : Rep β} {b : Bool}
theorem RInt.mono : RMono RInt := fun _ _ _ _ _ h => h
theorem RInt.tup : RTup RInt := fun _ _ _ _ _ h => h
theorem RVec.mono : RMono (RVec b K) := fun _ _ _ _ s ⟨a, e, h⟩ => ⟨a, e, s.sq h⟩
theorem RVec.tup : RTup (RVec false K) := fun _ _ _ _ hD ⟨a, e, h⟩ => ⟨a, e, sq_hide hD h⟩
theorem RSeq.mono (hR : RMono R) : RMono (RSeq b K R) := fun _ _ _ _ s ⟨a, vs, e, h, hl, q⟩ => ⟨a, vs, e, s.sq h, hl, fun i y x h1 h2 => hR _ _ _ _ s (q i y x h1 h2)⟩
theorem RSeq.tup (hR : RTup R) : RTup (RSeq false K R) := fun _ _ _ _ hD ⟨a, vs, e, h, hl, q⟩ => ⟨a, vs, e, sq_hide hD h, hl, fun i y x h1 h2 => hR _ _ _ _ hD (q i y x h1 h2)⟩
theorem RPair.mono (hR : RMono R) (hS : RMono S) : RMono (RPair K R S) := fun _ _ _ _ s ⟨a, x, y, e, h, h1, h2⟩ => ⟨a, x, y, e, s.sq h, hR _ _ _ _ s h1, hS _ _ _ _ s h2⟩
theorem RPair.tup (hR : RTup R) (hS : RTup S) : RTup (RPair K R S) := fun _ _ _ _ hD ⟨a, x, y, e, h, h1, h2⟩ => ⟨a, x, y, e, sq_hide hD h, hR _ _ _ _ hD h1, hS _ _ _ _ hD h2⟩
theorem RSeq.get {H : Hp} {vs : List V} {xs : List α} (hl : vs.length = xs.length) (q : ∀ (i : Nat) y x, vs[i]? = some y → xs[i]? = some x → R H y x) {i : Nat} {x : α} (h : xs[i]? = some x) : ∃ y, vs[i]? = some y ∧ R H y x := by
  have hi := (List.getElem?_eq_some_iff.mp h).1
  exact ⟨vs[i], List.getElem?_eq_getElem (by omega), q i _ x (List.getElem?_eq_getElem (by omega)) h⟩
theorem vec_at {ns : List Int} {i : Nat} {y : V} (h : (ns.map V.int)[i]? = some y) : y = .int (nth ns (i : Nat)) ∧ i < ns.length := by
  have hi := (List.getElem?_eq_some_iff.mp h).1
  rw [List.length_map] at hi
  rw [List.getElem?_map, List.getElem?_eq_getElem hi] at h
  refine ⟨?_, hi⟩
  rw [← Option.some.inj h, nth_nat, List.getD_eq_getElem?_getD, List.getElem?_eq_getElem hi]
  rfl
theorem vec_get {ns : List Int} {i : Nat} (hi : i < ns.length) : (ns.map V.int)[i]? = some (.int (nth ns (i : Nat))) := by
  rw [List.getElem?_map, List.getElem?_eq_getElem hi, nth_nat, List.getD_eq_getElem?_getD, List.getElem?_eq_getElem hi]
  rfl
theorem vec_of {ys : List V} {ns : List Int} (hl : ys.length = ns.length) (h : ∀ (i : Nat) y, ys[i]? = some y → y = .int (nth ns (i : Nat))) : ys = ns.map V.int := by
  refine List.ext_getElem? fun i => ?_
  by_cases hi : i < ys.length
  · rw [vec_get (by omega), List.getElem?_eq_getElem hi]
    exact congrArg some (h i _ (List.getElem?_eq_getElem hi))
  · rw [List.getElem?_eq_none (by omega), List.getElem?_eq_none (by rw [List.length_map]; omega)]
end
section
variable {K : PySem.W.Frag} {σ : St} {H : Hp} {te : TE} {vs : List Nat} {Q : VK} {b b1 b2 : Bool} {a a1 a2 : Addr} {j : Nat}
/-- a comprehension that gives numbers -/
theorem c_ints (xs : List V) (hx : Sq b K H a xs) (ms : List Int) (hl : ms.length = xs.length) (hz : xs.length < sizeLine) (hw : ∀ x : V, wipe ((wipe σ vs).set j (some x)) vs = wipe σ vs)
    (hs : ∀ (i : Nat) x H1 (N : VK), i < xs.length → xs[i]? = some x → Same H H1 → (∀ H4, Same H1 H4 → N (.int (nth ms (i : Nat))) H4) → te ((wipe σ vs).set j (some x)) H1 N)
    (k : ∀ D H', H D = none → Same H H' → H' D = some (.lst (ms.map V.int)) → Q (.ref D) H') :
    ∃ a', V.ref a = .ref a' ∧ ((∃ xs, SqL K H a' xs) ∧ CompOk (Itl K a') (gName j) tYes te vs σ H Q ∨ (∃ xs, SqT K H a' xs) ∧ CompOk (Itt K a') (gName j) tYes te vs σ H Q) :=
  l_compS xs hx hz (fun i y _ => y = .int (nth ms (i : Nat))) (fun _ _ _ _ _ h => h) hw (fun i x H1 D acc N hi hxi sm hD e1 hN => hs i x H1 N hi hxi sm fun H4 s4 => hN _ H4 s4 rfl)
    (fun D H' ys hD sm e hly hr => k D H' hD sm (by rw [e, vec_of (by omega) hr]))
theorem c_intsR {n : Int} (h1 : -(2 ^ 62) ≤ n) (h2 : n < 16000000) (ms : List Int) (hl : ms.length = n.toNat) (hw : ∀ x : V, wipe ((wipe σ vs).set j (some x)) vs = wipe σ vs)
    (hs : ∀ (i : Nat) H1 (N : VK), (i : Int) < n → Same H H1 → (∀ H4, Same H1 H4 → N (.int (nth ms (i : Nat))) H4) → te ((wipe σ vs).set j (some (.int (i : Int)))) H1 N)
    (k : ∀ D H', H D = none → Same H H' → H' D = some (.lst (ms.map V.int)) → Q (.ref D) H') :
    ∃ j' : Int, [V.int n] = [.int j'] ∧ -(2 ^ 62) ≤ j' ∧ j' < 2 ^ 62 ∧ CompOk (Itr 0 j'.toNat) (gName j) tYes te vs σ H Q :=
  l_compR h1 h2 (fun i y _ => y = .int (nth ms (i : Nat))) (fun _ _ _ _ _ h => h) hw (fun i H1 D acc N hi sm hD e1 hN => hs i H1 N hi sm fun H4 s4 => hN _ H4 s4 rfl)
    (fun D H' ys hD sm e hly hr => k D H' hD sm (by rw [e, vec_of (by omega) hr]))
theorem c_intsZ {i1 i2 nn : Nat} (xs ys : List V) (hn : xs.length = ys.length) (hx : Sq b1 K H a1 xs) (hy : Sq b2 K H a2 ys) (ms : List Int) (hl : ms.length = xs.length) (hz : xs.length < sizeLine) (hnn : nn = 2)
    (hw : ∀ x y : V, wipe (((wipe σ vs).set i1 (some x)).set i2 (some y)) vs = wipe σ vs)
    (hs : ∀ (i : Nat) x y H1 (N : VK), i < xs.length → xs[i]? = some x → ys[i]? = some y → Same H H1 → (∀ H4, Same H1 H4 → N (.int (nth ms (i : Nat))) H4) → te (((wipe σ vs).set i1 (some x)).set i2 (some y)) H1 N)
    (k : ∀ D H', H D = none → Same H H' → H' D = some (.lst (ms.map V.int)) → Q (.ref D) H') :
    ∃ a' b', [V.ref a1, V.ref a2] = [.ref a', .ref b'] ∧ ∃ b1 b2 xs ys, Sq b1 K H a' xs ∧ Sq b2 K H b' ys ∧ CompOk (ItzS b1 b2 K a' b') (gTup K nn (gCons (gName i1) (gCons (gName i2) gNil))) tYes te vs σ H Q :=
  l_compZ xs ys hn hx hy hz (fun i y _ => y = .int (nth ms (i : Nat))) (fun _ _ _ _ _ h => h) hnn hw (fun i x y H1 D acc N hi hxi hyi sm hD e1 hN => hs i x y H1 N hi hxi hyi sm fun H4 s4 => hN _ H4 s4 rfl)
    (fun D H' zs hD sm e hly hr => k D H' hD sm (by rw [e, vec_of (by omega) hr]))
/-- a comprehension that gives data without the new list in them -/
theorem c_repL {α : Type} {R : Rep α} (hm : RMono R) (ht : RLst R) (xs : List V) (hx : Sq b K H a xs) (ds : List α) (hl : ds.length = xs.length) (hz : xs.length < sizeLine) (hw : ∀ x : V, wipe ((wipe σ vs).set j (some x)) vs = wipe σ vs)
    (hs : ∀ (i : Nat) x d H1 (N : VK), i < xs.length → xs[i]? = some x → ds[i]? = some d → Same H H1 → (∀ y H4, Same H1 H4 → R H4 y d → N y H4) → te ((wipe σ vs).set j (some x)) H1 N)
    (k : ∀ D H' ys, H D = none → Same H H' → H' D = some (.lst ys) → ys.length = ds.length → (∀ (i : Nat) y d, ys[i]? = some y → ds[i]? = some d → R H' y d) → Q (.ref D) H') :
    ∃ a', V.ref a = .ref a' ∧ ((∃ xs, SqL K H a' xs) ∧ CompOk (Itl K a') (gName j) tYes te vs σ H Q ∨ (∃ xs, SqT K H a' xs) ∧ CompOk (Itt K a') (gName j) tYes te vs σ H Q) :=
  l_compS xs hx hz (fun i y H' => ∀ d, ds[i]? = some d → R H' y d) (fun _ _ _ _ s h d hd => hm _ _ _ _ s (h d hd)) hw
    (fun i x H1 D acc N hi hxi sm hD e1 hN => by
      obtain ⟨d, hd⟩ : ∃ d, ds[i]? = some d := ⟨ds[i]'(by omega), List.getElem?_eq_getElem (by omega)⟩
      refine hs i x d H1 N hi hxi hd sm fun y H4 s4 r4 => hN y H4 s4 fun d' hd' => ?_
      rw [hd] at hd'
      cases hd'
      exact ht _ D _ _ _ (s4 _ _ e1) r4)
    (fun D H' ys hD sm e hly hr => k D H' ys hD sm e (by omega) fun i y d h1 h2 => hm _ _ _ _ (hide_same D H') (hr i y h1 d h2))
/-- a comprehension that gives data without lists -/
theorem c_rep {α : Type} {R : Rep α} (hm : RMono R) (ht : RTup R) (xs : List V) (hx : Sq b K H a xs) (ds : List α) (hl : ds.length = xs.length) (hz : xs.length < sizeLine) (hw : ∀ x : V, wipe ((wipe σ vs).set j (some x)) vs = wipe σ vs)
    (hs : ∀ (i : Nat) x d H1 (N : VK), i < xs.length → xs[i]? = some x → ds[i]? = some d → Same H H1 → (∀ y H4, Same H1 H4 → R H4 y d → N y H4) → te ((wipe σ vs).set j (some x)) H1 N)
    (k : ∀ D H' ys, H D = none → Same H H' → H' D = some (.lst ys) → ys.length = ds.length → (∀ (i : Nat) y d, ys[i]? = some y → ds[i]? = some d → R H' y d) → Q (.ref D) H') :
    ∃ a', V.ref a = .ref a' ∧ ((∃ xs, SqL K H a' xs) ∧ CompOk (Itl K a') (gName j) tYes te vs σ H Q ∨ (∃ xs, SqT K H a' xs) ∧ CompOk (Itt K a') (gName j) tYes te vs σ H Q) :=
  c_repL hm ht.lst xs hx ds hl hz hw hs k
theorem c_repR {α : Type} {R : Rep α} {n : Int} (hm : RMono R) (ht : RTup R) (h1 : -(2 ^ 62) ≤ n) (h2 : n < 16000000) (ds : List α) (hl : ds.length = n.toNat) (hw : ∀ x : V, wipe ((wipe σ vs).set j (some x)) vs = wipe σ vs)
    (hs : ∀ (i : Nat) d H1 (N : VK), (i : Int) < n → ds[i]? = some d → Same H H1 → (∀ y H4, Same H1 H4 → R H4 y d → N y H4) → te ((wipe σ vs).set j (some (.int (i : Int)))) H1 N)
    (k : ∀ D H' ys, H D = none → Same H H' → H' D = some (.lst ys) → ys.length = ds.length → (∀ (i : Nat) y d, ys[i]? = some y → ds[i]? = some d → R H' y d) → Q (.ref D) H') :
    ∃ j' : Int, [V.int n] = [.int j'] ∧ -(2 ^ 62) ≤ j' ∧ j' < 2 ^ 62 ∧ CompOk (Itr 0 j'.toNat) (gName j) tYes te vs σ H Q :=
  l_compR h1 h2 (fun i y H' => ∀ d, ds[i]? = some d → R H' y d) (fun _ _ _ _ s h d hd => hm _ _ _ _ s (h d hd)) hw
    (fun i H1 D acc N hi sm hD e1 hN => by
      obtain ⟨d, hd⟩ : ∃ d, ds[i]? = some d := ⟨ds[i]'(by omega), List.getElem?_eq_getElem (by omega)⟩
      refine hs i d H1 N hi hd sm fun y H4 s4 r4 => hN y H4 s4 fun d' hd' => ?_
      rw [hd] at hd'
      cases hd'
      exact ht _ D _ _ (NTup.lst (s4 _ _ e1)) r4)
    (fun D H' ys hD sm e hly hr => k D H' ys hD sm e (by omega) fun i y d h1 h2 => hm _ _ _ _ (hide_same D H') (hr i y h1 d h2))
/-- the same data twice -/
theorem RInt.sm {n : Nat} {x y : V} {i : Int} (h1 : RInt H x i) (h2 : RInt H y i) : Sm K H n x y := by
  cases h1
  cases h2
  exact Sm.int
theorem RSeq.sm {α : Type} {R S : Rep α} {n : Nat} {x y : V} {ds : List α} (hz : ds.length ≤ 100000) (hRS : ∀ x y d, d ∈ ds → R H x d → S H y d → Sm K H n x y) (h1 : RSeq false K R H x ds) (h2 : RSeq b K S H y ds) : Sm K H (n + 1) x y := by
  obtain ⟨a, xs, rfl, hx, hxl, hxr⟩ := h1
  obtain ⟨a', ys, rfl, hy, hyl, hyr⟩ := h2
  refine .inr ⟨a, a', b, xs, ys, rfl, rfl, hx, hy, by omega, by omega, fun i x' y' e1 e2 => ?_⟩
  have hi := (List.getElem?_eq_some_iff.mp e1).1
  have hd : ds[i]? = some (ds[i]'(by omega)) := List.getElem?_eq_getElem (by omega)
  exact hRS _ _ _ (List.mem_of_getElem? hd) (hxr i _ _ e1 hd) (hyr i _ _ e2 hd)
theorem RVec.sm {n : Nat} {x y : V} {ns : List Int} (hz : ns.length ≤ 100000) (h1 : RVec false K H x ns) (h2 : RVec b K H y ns) : Sm K H (n + 1) x y := by
  obtain ⟨a, rfl, hx⟩ := h1
  obtain ⟨a', rfl, hy⟩ := h2
  refine .inr ⟨a, a', b, _, _, rfl, rfl, hx, hy, rfl, by rw [List.length_map]; exact hz, fun i x' y' e1 e2 => ?_⟩
  rw [(vec_at e1).1, (vec_at e2).1]
  exact Sm.int
theorem RPair.sm {α β : Type} {R R' : Rep α} {S S' : Rep β} {n : Nat} {x y : V} {p : α × β} (hR : ∀ x y, R H x p.1 → R' H y p.1 → Sm K H n x y) (hS : ∀ x y, S H x p.2 → S' H y p.2 → Sm K H n x y) (h1 : RPair K R S H x p) (h2 : RPair K R' S' H y p) : Sm K H (n + 1) x y := by
  obtain ⟨a, x1, x2, rfl, hx, r1, r2⟩ := h1
  obtain ⟨a', y1, y2, rfl, hy, q1, q2⟩ := h2
  refine .inr ⟨a, a', false, _, _, rfl, rfl, hx, hy, rfl, by show 2 ≤ 100000; omega, fun i x' y' e1 e2 => ?_⟩
  match i, e1, e2 with
  | 0, e1, e2 => cases e1; cases e2; exact hR _ _ r1 q1
  | 1, e1, e2 => cases e1; cases e2; exact hS _ _ r2 q2
  | i + 2, e1, _ => simp at e1
end
/-! ### fields of objects -/
section
variable {K : PySem.W.Frag} {σ : St} {H : Hp} {v : V} {Q : VK} {ta : TE} {D : Ends}
theorem lk_here {f : Str} {v : V} {r : List (Str × V)} : List.lookup f ((f, v) :: r) = some v := by simp [List.lookup]
theorem lk_next {f g : Str} {v : V} {r : List (Str × V)} {o : Option V} (h : (f == g) = false) (q : List.lookup f r = o) : List.lookup f ((g, v) :: r) = o := by
  rw [List.lookup, h]; exact q
theorem pf_here {f : Str} {v u : V} {r : List (Str × V)} : putF f v ((f, u) :: r) = (f, v) :: r := by
  show (if f = f then _ else _) = _
  rw [if_pos rfl]
theorem pf_next {f g : Str} {v u : V} {r r' : List (Str × V)} (h : (g == f) = false) (q : putF f v r = r') : putF f v ((g, u) :: r) = (g, u) :: r' := by
  have hne : ¬ g = f := fun e => by rw [e] at h; simp at h
  show (if g = f then _ else (g, u) :: putF f v r) = _
  rw [if_neg hne, q]
theorem pf_nil {f : Str} {v : V} : putF f v [] = [(f, v)] := rfl
theorem w_fld {f : Str} (q : ta σ H fun x H1 => ∃ a C dx fs v, x = .ref a ∧ H1 a = some (.ins C dx fs) ∧ Cls K C ∧ NoAttr K C f ∧ fs.lookup f = some v ∧ Q v H1) : tFld K ta f σ H Q := q
theorem w_fldAt {f : Str} {p C dx : Addr} {fs : List (Str × V)} (h : H p = some (.ins C dx fs)) (c : Cls K C) (n : NoAttr K C f) (l : fs.lookup f = some v) {F : V → Prop} (q : F v) :
    ∃ a C dx fs v, V.ref p = .ref a ∧ H a = some (.ins C dx fs) ∧ Cls K C ∧ NoAttr K C f ∧ fs.lookup f = some v ∧ F v := ⟨p, C, dx, fs, v, rfl, h, c, n, l, q⟩
theorem w_sfld {f : Str} {tv : TE} {nx b' c' : St → Hp → Prop} {rt : VK} (q : tv σ H fun y H1 => ta σ H1 fun x H2 => ∃ a C dx fs, x = .ref a ∧ H2 a = some (.ins C dx fs) ∧ Cls K C ∧ NoAttr K C f ∧ fs.length < 1000 ∧ nx σ (upd H2 a (.ins C dx (putF f y fs)))) : sFld K ta tv f ⟨nx, rt, b', c'⟩ σ H := q
theorem w_sfldAt {f : Str} {p C dx : Addr} {fs fs' : List (Str × V)} {y : V} (h : H p = some (.ins C dx fs)) (c : Cls K C) (n : NoAttr K C f) (hl : fs.length < 1000) (e : putF f y fs = fs') {F : Hp → Prop} (q : F (upd H p (.ins C dx fs'))) :
    ∃ a C dx fs, V.ref p = .ref a ∧ H a = some (.ins C dx fs) ∧ Cls K C ∧ NoAttr K C f ∧ fs.length < 1000 ∧ F (upd H a (.ins C dx (putF f y fs))) := ⟨p, C, dx, fs, rfl, h, c, n, hl, by rw [e]; exact q⟩
theorem w_meth {C : Addr} {m : Str} {sp : Sp} {dvs : List V} {E : XK} {t : TA} (q : ta σ H fun x H1 => ∃ a dx fs, x = .ref a ∧ H1 a = some (.ins C dx fs) ∧ fs.lookup m = none ∧ t σ H1 fun vs H2 => sp (x :: (vs ++ dvs)) H2 Q E) : tMeth C m sp dvs E ta t σ H Q := q
theorem w_methAt {m : Str} {p C dx : Addr} {fs : List (Str × V)} {B : Prop} (h : H p = some (.ins C dx fs)) (l : fs.lookup m = none) (q : B) : ∃ a dx fs, V.ref p = .ref a ∧ H a = some (.ins C dx fs) ∧ fs.lookup m = none ∧ B := ⟨p, dx, fs, rfl, h, l, q⟩
theorem w_make {C : Addr} {sp : Sp} {dvs : List V} {E : XK} {t : TA} (q : t σ H fun vs H1 => ∀ x dx, H1 x = none → H1 dx = none → dx ≠ x → sp (.ref x :: (vs ++ dvs)) (upd (upd H1 dx (.own x)) x (.ins C dx [])) (fun v H2 => v = .non ∧ Q (.ref x) H2) E) : tMake C sp dvs E t σ H Q := q
theorem w_notInS {neg : Bool} {x : V} {p : Addr} {xs : List V} {b : Bool} (h : Sq b K H p xs) (hx : flatV x = true) (ha : xs.all flatV = true) (q : Q (.bl (if neg then !inV x xs else inV x xs)) H) : rIn K neg x (.ref p) H Q := ⟨p, xs, rfl, h.or, hx, ha, q⟩
theorem w_chain {r r' : R2} {tb tc : TE} (q : ta σ H fun x H1 => tb σ H1 fun y H2 => r x y H2 fun z H3 => ∃ k, z = .bl k ∧ if k = true then tc σ H3 fun w H4 => r' y w H4 Q else Q (.bl false) H3) : tChain r r' ta tb tc σ H Q := q
end
end L2

namespace L2
open PySem PySem.Spec PyProof.Rows
theorem RTup.upd {α : Type} {R : Rep α} (ht : RTup R) (hm : RMono R) {H : Hp} {D : Addr} {o : HO} {v : V} {x : α} (hD : NTup (H D)) (h : R H v x) : R (L2.upd H D o) v x := by
  have h1 := ht _ _ _ _ hD h
  rw [← hide_upd D H o] at h1
  exact hm _ _ _ _ (hide_same D _) h1
/-- a list that a loop fills: at D, its items relate to the data without the list itself -/
structure Filled {α : Type} (R : Rep α) (H0 H : Hp) (D : Addr) (ds : List α) : Prop where
  new : H0 D = none
  same : Same H0 H
  at_ : ∃ ys, H D = some (.lst ys) ∧ ys.length = ds.length ∧ ∀ (i : Nat) y d, ys[i]? = some y → ds[i]? = some d → R (hide D H) y d
theorem Filled.nil {α : Type} {R : Rep α} {H : Hp} {D : Addr} (h : H D = none) : Filled R H (L2.upd H D (.lst [])) D [] :=
  ⟨h, Same.new h, [], upd_same, rfl, fun i y d e => by simp at e⟩
theorem Filled.mono {α : Type} {R : Rep α} (hm : RMono R) {H0 H H' : Hp} {D : Addr} {ds : List α} (f : Filled R H0 H D ds) (s : Same H H') : Filled R H0 H' D ds := by
  obtain ⟨ys, e, hl, hr⟩ := f.at_
  exact ⟨f.new, f.same.trans s, ys, s _ _ e, hl, fun i y d h1 h2 => hm _ _ _ _ (hide_mono s) (hr i y d h1 h2)⟩
theorem Filled.push {α : Type} {R : Rep α} {H0 H : Hp} {D : Addr} {ds : List α} {d : α} {y : V} (f : Filled R H0 H D ds) (hy : R (hide D H) y d) : ∃ ys, H D = some (.lst ys) ∧ ys.length = ds.length ∧ Filled R H0 (L2.upd H D (.lst (ys ++ [y]))) D (ds ++ [d]) := by
  obtain ⟨ys, e, hl, hr⟩ := f.at_
  refine ⟨ys, e, hl, f.new, Same.mut f.same f.new, ys ++ [y], upd_same, by simp [hl], fun i y' d' h1 h2 => ?_⟩
  rw [hide_upd]
  by_cases hi : i < ys.length
  · rw [List.getElem?_append_left hi] at h1
    rw [List.getElem?_append_left (by omega)] at h2
    exact hr i y' d' h1 h2
  · have h3 := (List.getElem?_eq_some_iff.mp h1).1
    rw [List.length_append] at h3
    have ei : i = ys.length := by
      have : i < ys.length + 1 := h3
      omega
    subst ei
    rw [List.getElem?_append_right (Nat.le_refl _), Nat.sub_self] at h1
    rw [hl, List.getElem?_append_right (Nat.le_refl _), Nat.sub_self] at h2
    cases h1
    cases h2
    exact hy
theorem Filled.seq {α : Type} {R : Rep α} (hm : RMono R) {K : PySem.W.Frag} {H0 H : Hp} {D : Addr} {ds : List α} (f : Filled R H0 H D ds) : RSeq true K R H (.ref D) ds := by
  obtain ⟨ys, e, hl, hr⟩ := f.at_
  exact ⟨D, ys, rfl, Sq.lst e, hl, fun i y d h1 h2 => hm _ _ _ _ (hide_same D H) (hr i y d h1 h2)⟩
section
variable {K : PySem.W.Frag} {σ : St} {H : Hp} {N : St → Hp → Prop}
theorem w_pairG {i : Nat} {g : TG} {a : Addr} {x y : V} (h : Sq false K H a [x, y]) (q : g y (σ.set i (some x)) H N) : gTup K 2 (gCons (gName i) (gCons g gNil)) (.ref a) σ H N :=
  ⟨a, [x, y], rfl, h, rfl, x, [y], rfl, y, [], rfl, (by
    have : (fun σ' H' => gNil [] σ' H' N) = N := by
      funext σ' H'
      exact propext ⟨fun h => h.2, fun h => ⟨rfl, h⟩⟩
    rw [this]; exact q)⟩
theorem w_trip {i j k : Nat} {a : Addr} {x y z : V} (h : Sq false K H a [x, y, z]) (q : N (((σ.set i (some x)).set j (some y)).set k (some z)) H) : gTup K 3 (gCons (gName i) (gCons (gName j) (gCons (gName k) gNil))) (.ref a) σ H N :=
  ⟨a, [x, y, z], rfl, h, rfl, x, [y, z], rfl, y, [z], rfl, z, [], rfl, rfl, q⟩
theorem w_five {i1 i2 i3 i4 i5 : Nat} {a : Addr} {x1 x2 x3 x4 x5 : V} (h : Sq false K H a [x1, x2, x3, x4, x5]) (q : N (((((σ.set i1 (some x1)).set i2 (some x2)).set i3 (some x3)).set i4 (some x4)).set i5 (some x5)) H) :
    gTup K 5 (gCons (gName i1) (gCons (gName i2) (gCons (gName i3) (gCons (gName i4) (gCons (gName i5) gNil))))) (.ref a) σ H N :=
  ⟨a, [x1, x2, x3, x4, x5], rfl, h, rfl, x1, [x2, x3, x4, x5], rfl, x2, [x3, x4, x5], rfl, x3, [x4, x5], rfl, x4, [x5], rfl, x5, [], rfl, rfl, q⟩
theorem RSeq.five {α : Type} {R : Rep α} {v : V} {d0 d1 d2 d3 d4 : α} (h : RSeq false K R H v [d0, d1, d2, d3, d4]) : ∃ a x0 x1 x2 x3 x4, v = .ref a ∧ Sq false K H a [x0, x1, x2, x3, x4] ∧ R H x0 d0 ∧ R H x1 d1 ∧ R H x2 d2 ∧ R H x3 d3 ∧ R H x4 d4 := by
  obtain ⟨a, vs, e, hs, hl, hr⟩ := h
  match vs, hl with
  | [x0, x1, x2, x3, x4], _ => exact ⟨a, x0, x1, x2, x3, x4, e, hs, hr 0 _ _ rfl rfl, hr 1 _ _ rfl rfl, hr 2 _ _ rfl rfl, hr 3 _ _ rfl rfl, hr 4 _ _ rfl rfl⟩
theorem RSeq.lt {α : Type} {R : Rep α} {b : Bool} {v : V} {ds : List α} (h : RSeq b K R H v ds) : ∃ a vs, v = .ref a ∧ Sq b K H a vs ∧ vs.length = ds.length ∧ ∀ (i : Nat) y x, vs[i]? = some y → ds[i]? = some x → R H y x := h
/-- cuts of lists -/
theorem cutV_fromto {xs : List V} {a b : Nat} (h : a ≤ b) (hb : b ≤ xs.length) : cutV xs (some (a : Int)) (some (b : Int)) = (xs.drop a).take (b - a) := by
  unfold cutV
  rw [HT.sIx_nat, HT.sIx_nat, Nat.min_eq_left hb, Nat.min_eq_left (Nat.le_trans h hb)]
theorem cutV_upto {xs : List V} {b : Nat} (hb : b ≤ xs.length) : cutV xs none (some (b : Int)) = xs.take b := by
  unfold cutV
  rw [HT.sIx_none, HT.sIx_nat, Nat.min_eq_left hb, List.drop_zero, Nat.sub_zero]
theorem cutV_from {xs : List V} {a : Nat} (ha : a ≤ xs.length) : cutV xs (some (a : Int)) none = xs.drop a := by
  unfold cutV
  rw [HT.sIx_none, HT.sIx_nat, Nat.min_eq_left ha, List.take_of_length_le (by rw [List.length_drop]; omega)]
theorem w_slC {a : Addr} {xs ys : List V} {lo hi : Option Int} {Q : VK} (h : Sq true K H a xs) (e : cutV xs lo hi = ys) (q : ∀ p, H p = none → Q (.ref p) (L2.upd H p (.lst ys))) : rSlG K (.ref a) lo hi H Q :=
  .inl ⟨a, xs, rfl, h, fun p hp => by rw [e]; exact q p hp⟩
theorem cutV_int {xs : List V} {a b : Int} (h0 : 0 ≤ a) (h : a ≤ b) (hb : b ≤ xs.length) : cutV xs (some a) (some b) = (xs.drop a.toNat).take (b.toNat - a.toNat) := by
  obtain ⟨n, rfl⟩ := Int.eq_ofNat_of_zero_le h0
  obtain ⟨m, rfl⟩ := Int.eq_ofNat_of_zero_le (Int.le_trans h0 h)
  rw [Int.toNat_natCast, Int.toNat_natCast]
  exact cutV_fromto (by omega) (by omega)
theorem cutV_intTo {xs : List V} {b : Int} (h0 : 0 ≤ b) (hb : b ≤ xs.length) : cutV xs none (some b) = xs.take b.toNat := by
  obtain ⟨m, rfl⟩ := Int.eq_ofNat_of_zero_le h0
  rw [Int.toNat_natCast]
  exact cutV_upto (by omega)
/-- a cut of a list or of a tuple -/
theorem w_slAny {b : Bool} {a : Addr} {xs ys : List V} {lo hi : Option Int} {Q : VK} (h : Sq b K H a xs) (e : cutV xs lo hi = ys) (q : ∀ p H', Same H H' → Sq b K H' p ys → Q (.ref p) H') : rSlG K (.ref a) lo hi H Q := by
  cases b with
  | true => exact .inl ⟨a, xs, rfl, h, fun p hp => q _ _ (Same.new hp) (Sq.lst (by rw [upd_same, e]))⟩
  | false =>
    refine .inr ⟨a, xs, rfl, h, fun hw => ?_, fun _ p hp => q _ _ (Same.new hp) (Sq.tup (by rw [upd_same, e]))⟩
    have e2 : xs = ys := by
      rw [← e]
      unfold cutV
      rw [hw.1, hw.2, List.drop_zero, Nat.sub_zero, List.take_length]
    exact q _ _ (Same.refl _) (e2 ▸ h)
theorem rep_cut {α : Type} {R : Rep α} {vs : List V} {xs : List α} (hr : ∀ (i : Nat) y x, vs[i]? = some y → xs[i]? = some x → R H y x) (a n : Nat) : ∀ (i : Nat) y x, ((vs.drop a).take n)[i]? = some y → ((xs.drop a).take n)[i]? = some x → R H y x := fun i y x h1 h2 => by
  rw [List.getElem?_take] at h1 h2
  split at h1
  · rw [if_pos (by assumption), List.getElem?_drop] at h2
    rw [List.getElem?_drop] at h1
    exact hr _ _ _ h1 h2
  · cases h1
theorem rep_to {α : Type} {R : Rep α} {vs : List V} {xs : List α} (hr : ∀ (i : Nat) y x, vs[i]? = some y → xs[i]? = some x → R H y x) (n : Nat) : ∀ (i : Nat) y x, (vs.take n)[i]? = some y → (xs.take n)[i]? = some x → R H y x := rep_cut hr 0 n
/-- adding two lists -/
theorem w_catLL {l b : Addr} {xs zs : List V} {Q : VK} (h1 : H l = some (.lst xs)) (h2 : H b = some (.lst zs)) (hz : xs.length + zs.length ≤ sizeLine) (q : ∀ p, H p = none → Q (.ref p) (L2.upd H p (.lst (xs ++ zs)))) : rAddG K (.ref l) (.ref b) H Q :=
  .inr (.inr ⟨l, b, xs, zs, rfl, rfl, h1, h2, hz, q⟩)
end
end L2

namespace L2
open PySem PySem.Spec PyProof.Rows
/-! ### data without lists, equal to itself -/
mutual
theorem eqv_refl : ∀ d : PyData, d.canLay0 = true → PyData.eqv d d = true
  | .none, _ => by simp only [PyData.eqv]
  | .bool b, _ => by simp only [PyData.eqv, beq_self_eq_true]
  | .int i, _ => by simp only [PyData.eqv, beq_self_eq_true]
  | .str x, _ => by simp only [PyData.eqv, beq_self_eq_true]
  | .list xs, h => by
    simp only [PyData.eqv]
    exact eqvAll_refl xs (by simpa only [PyData.canLay0] using h)
  | .tuple xs, h => by
    simp only [PyData.eqv]
    exact eqvAll_refl xs (by simpa only [PyData.canLay0] using h)
  | .dict _, h => by simp only [PyData.canLay0] at h; cases h
theorem eqvAll_refl : ∀ ds : List PyData, PyData.canLayAll0 ds = true → PyData.eqvAll ds ds = true
  | [], _ => by simp only [PyData.eqvAll]
  | d :: r, h => by
    simp only [PyData.canLayAll0, Bool.and_eq_true] at h
    simp only [PyData.eqvAll, eqv_refl d h.1, eqvAll_refl r h.2, Bool.and_self]
end
/-- data of a kind: as PyData, laid, no deeper than n -/
structure Dat {α : Type} (K : PySem.W.Frag) (R : Rep α) (f : α → PyData) (n : Nat) : Prop where
  dp : ∀ H v d, R H v d → Dp K H v (f d)
  lay : ∀ d, (f d).canLay0 = true
  deep : ∀ d, (f d).depth ≤ n
theorem canLayAll_map {α : Type} {f : α → PyData} (h : ∀ d, (f d).canLay0 = true) : ∀ ds : List α, PyData.canLayAll0 (ds.map f) = true
  | [] => by simp only [List.map_nil, PyData.canLayAll0]
  | d :: r => by simp only [List.map_cons, PyData.canLayAll0, h d, canLayAll_map h r, Bool.and_self]
theorem depthAll_map {α : Type} {f : α → PyData} {n : Nat} (h : ∀ d, (f d).depth ≤ n) : ∀ ds : List α, PyData.depthAll (ds.map f) ≤ n
  | [] => by simp only [List.map_nil, PyData.depthAll]; exact Nat.zero_le _
  | d :: r => by
    simp only [List.map_cons, PyData.depthAll]
    exact Nat.max_le.mpr ⟨h d, depthAll_map h r⟩
theorem dpAll_map {α : Type} {K : PySem.W.Frag} {R : Rep α} {f : α → PyData} {H : Hp} (h : ∀ v d, R H v d → Dp K H v (f d)) : ∀ {vs : List V} {ds : List α}, vs.length = ds.length → (∀ (i : Nat) y x, vs[i]? = some y → ds[i]? = some x → R H y x) → DpAll K H vs (ds.map f)
  | [], [], _, _ => .nil
  | v :: vs, d :: ds, hl, hr => .cons (h v d (hr 0 v d rfl rfl)) (dpAll_map h (by simpa using hl) fun i y x h1 h2 => hr (i + 1) y x (by simpa using h1) (by simpa using h2))
theorem Dat.seq {α : Type} {K : PySem.W.Frag} {R : Rep α} {f : α → PyData} {n : Nat} (h : Dat K R f n) : Dat K (RSeq false K R) (fun ds => .tuple (ds.map f)) (n + 1) where
  dp := fun H v ds ⟨a, vs, e, hs, hl, hr⟩ => by subst e; exact .tup hs (dpAll_map (h.dp H) hl hr)
  lay := fun ds => by simp only [PyData.canLay0]; exact canLayAll_map h.lay ds
  deep := fun ds => by simp only [PyData.depth]; exact Nat.succ_le_succ (depthAll_map h.deep ds)
theorem Dat.vec {K : PySem.W.Frag} : Dat K (RVec false K) (fun ns => .tuple (ns.map PyData.int)) 1 where
  dp := fun H v ns ⟨a, e, hs⟩ => by subst e; exact .tup hs dpAll_ints
  lay := fun ns => by simp only [PyData.canLay0]; exact canLay_ints ns
  deep := fun ns => by simp only [PyData.depth, depth_ints]; exact Nat.le_refl _
theorem Dat.pair {α β : Type} {K : PySem.W.Frag} {R : Rep α} {S : Rep β} {f : α → PyData} {g : β → PyData} {n : Nat} (h : Dat K R f n) (h' : Dat K S g n) : Dat K (RPair K R S) (fun p => .tuple [f p.1, g p.2]) (n + 1) where
  dp := fun H v p ⟨a, x, y, e, hs, h1, h2⟩ => by subst e; exact .tup hs (.cons (h.dp _ _ _ h1) (.cons (h'.dp _ _ _ h2) .nil))
  lay := fun p => by simp only [PyData.canLay0, PyData.canLayAll0, h.lay, h'.lay, Bool.and_self]
  deep := fun p => by
    simp only [PyData.depth, PyData.depthAll]
    exact Nat.succ_le_succ (Nat.max_le.mpr ⟨h.deep _, Nat.max_le.mpr ⟨h'.deep _, Nat.zero_le _⟩⟩)
theorem Dat.up {α : Type} {K : PySem.W.Frag} {R : Rep α} {f : α → PyData} {n m : Nat} (h : Dat K R f n) (hm : n ≤ m) : Dat K R f m := ⟨h.dp, h.lay, fun d => Nat.le_trans (h.deep d) hm⟩
theorem Dat.shaped {α : Type} {K : PySem.W.Frag} {R : Rep α} {f : α → PyData} {n : Nat} (h : Dat K R f n) (hn : n ≤ 64) (d : α) : SeqAt.shaped (f d) = true := by
  unfold SeqAt.shaped
  rw [h.lay, decide_eq_true (Nat.le_trans (h.deep d) hn)]
  rfl
theorem w_neSame {α : Type} {K : PySem.W.Frag} {H : Hp} {Q : VK} {R : Rep α} {f : α → PyData} {n : Nat} (h : Dat K R f n) (hn : n ≤ 64) {x y : V} {d : α} (hx : R H x d) (hy : R H y d) (q : Q (.bl false) H) : rNeG K x y H Q :=
  w_neD (h.dp _ _ _ hx) (h.dp _ _ _ hy) (h.shaped hn d) (h.shaped hn d) (by rw [eqv_refl _ (h.lay d)]; exact q)
theorem w_eqSame {α : Type} {K : PySem.W.Frag} {H : Hp} {Q : VK} {R : Rep α} {f : α → PyData} {n : Nat} (h : Dat K R f n) (hn : n ≤ 64) {x y : V} {d : α} (hx : R H x d) (hy : R H y d) (q : Q (.bl true) H) : rEqG K x y H Q :=
  w_eqD (h.dp _ _ _ hx) (h.dp _ _ _ hy) (h.shaped hn d) (h.shaped hn d) (by rw [eqv_refl _ (h.lay d)]; exact q)
theorem sIx_neg (n d : Nat) : HT.sIx n d (some (-1)) = n - 1 := by
  show (if (-1 : Int) < 0 then ((-1 : Int) + (n : Int)).toNat else min (-1 : Int).toNat n) = n - 1
  rw [if_pos (by decide)]
  omega
theorem cutV_neg {xs : List V} : cutV xs none (some (-1)) = xs.take (xs.length - 1) := by
  unfold cutV
  rw [HT.sIx_none, sIx_neg, List.drop_zero, Nat.sub_zero]
theorem cutV_negFrom {xs : List V} : cutV xs (some (-1)) none = xs.drop (xs.length - 1) := by
  unfold cutV
  rw [HT.sIx_none, sIx_neg, List.take_of_length_le (by rw [List.length_drop]; omega)]
end L2

namespace L2
open PySem PySem.Spec PyProof.Rows
/-! ### the rules that name the written part, K said (within a comprehension's block it is told by rfl) -/
section
variable {X : Cx} {K : PySem.W.Frag} {a b : Expr} {ta tb : TE} {pos : Pos}
theorem k_addG (h : X.K = K) : OpR X (binaryOp .Add) (rAddG K) := h ▸ op_addG
theorem k_eqG (h : X.K = K) (hu : X.A.units + 64 < cLine) : OpR X (compareOp .Eq) (rEqG K) := h ▸ op_eqG hu
theorem k_neG (h : X.K = K) (hu : X.A.units + 64 < cLine) : OpR X (compareOp .NotEq) (rNeG K) := h ▸ op_neG hu
theorem k_inS (h : X.K = K) : OpR X (compareOp .In) (rIn K false) := h ▸ op_in_seq
theorem k_notInS (h : X.K = K) : OpR X (compareOp .NotIn) (rIn K true) := h ▸ op_notIn_seq
theorem k_slG (h : X.K = K) : SlR X (rSlG K) := h ▸ sl_seqG
theorem k_ix (h : X.K = K) : IxR X (rIx K) := h ▸ ix_seq
theorem k_sumS (h : X.K = K) (hc : X.calm = true) : CallR X (.builtin "sum") (rSumS K) := h ▸ cr_sumS hc
theorem k_lenS (h : X.K = K) : CallR X (.builtin "len") (rLenS K) := h ▸ cr_lenS
theorem k_listS (h : X.K = K) : CallR X (.type "list") (rListS K) := h ▸ cr_listS
theorem k_tupS (h : X.K = K) : CallR X (.type "tuple") (rTupS K) := h ▸ cr_tupS
theorem k_isi (h : X.K = K) : CallR X (.builtin "isinstance") (rIsi K) := h ▸ call_isi
theorem k_max (h : X.K = K) (hc : X.calm = true) : CallR X (.builtin "max") (rMax K) := h ▸ cr_max hc
theorem k_min (h : X.K = K) (hc : X.calm = true) : CallR X (.builtin "min") (rMin K) := h ▸ cr_min hc
theorem k_index (h : X.K = K) : MtR X "list.index" (rIndex K) := h ▸ mt_index
theorem k_tru {e : Expr} {te : TE} (h : X.K = K) (he : PE X e te) (hi : ∀ whole, isTrue e X.env whole = (do let v ← whole; standAt e.pos; holding [v] (truthy v))) : PT X e (tTru K te) := h ▸ pt_tru he hi
theorem k_fld {e : Expr} {f : Str} (h : X.K = K) (he : PE X e ta) (hb : attributeBase e f X.env (eval e X.env) = eval e X.env) : PE X (.Attribute e f pos) (tFld K ta f) := h ▸ pe_fld he hb
theorem k_sfld {o value : Expr} {f : Str} {pos' : Pos} {tv : TE} (h : X.K = K) (ha : PE X o ta) (hv : PE X value tv) (hs : swapsWith value (some (.Attribute o f pos')) pos.line X.env = pure false) : PS X (.Assign [.Attribute o f pos'] value pos) (sFld K ta tv f) := h ▸ ps_fld ha hv hs
theorem k_tup {es : List Expr} {kk : Nat} {t : TGs} {n : Nat} (h : X.K = K) (hc : X.calm = true) (hg : PGs X es t) (hn : (assignEach es X.env).length = n := by rfl) (hst : (assignEach es X.env).findIdx? (·.1) = none := by rfl) :
    PG X (.Tuple es kk pos) (gTup K n t) := h ▸ pg_tup hc hg hn hst
theorem k_seqS {tg l : Expr} {tl : TE} (h : X.K = K) (hl : PE X l tl) : PI X tg l (iSeq K tl) := h ▸ pi_seqS hl
theorem k_enumS {e : Expr} {ta : TA} {p pos tpos : Pos} {elts : List Expr} {kk : Nat} (h : X.K = K) (hg : Gl X "enumerate") (hm : X.mg "enumerate" = none) (ha : PA X [e] ta) (hs : starEach [e] X.env = [(false, eval e X.env)] := by rfl) :
    PI X (.Tuple elts kk tpos) (.Call (.Name "enumerate" p) [e] [] pos) (iEnumS K ta) := h ▸ pi_enumS hg hm ha hs
theorem k_zipS {e e2 : Expr} {ta : TA} {p pos tpos : Pos} {elts : List Expr} {kk : Nat} (h : X.K = K) (hg : Gl X "zip") (hm : X.mg "zip" = none) (ha : PA X [e, e2] ta)
    (hs : starEach [e, e2] X.env = (false, eval e X.env) :: starEach [e2] X.env := by rfl) (hpl : (backTo pos (starEach [e2] X.env)).any (·.1) = false := by rfl) :
    PI X (.Tuple elts kk tpos) (.Call (.Name "zip" p) [e, e2] [] pos) (iZipS K ta) := h ▸ pi_zipS hg hm ha hs hpl
theorem k_bm {o e : Expr} {es : List Expr} {to : TE} {t : TA} {name : Str} {apos cpos : Pos} {T id : String} {r : V → List V → Hp → VK → Prop} (h : X.K = K)
    (pa : PlainAttrs T) (slot : Slot T name id) (hty : typeOf (.builtin id) = pure (.type "method_descriptor")) (hm : MtR X id r) (ho : PE X o to) (ha : PA X (e :: es) t)
    (hbase : attributeBase o name X.env (eval o X.env) = eval o X.env := by rfl)
    (hfew : ((backTo cpos (starEach (e :: es) X.env)).all (fun x => !x.1) && (backToKw cpos (keywordEach [] X.env)).all (fun x => x.1.isSome)
      && decide ((e :: es).length + ([] : List Keyword).length + (if ([] : List Keyword).isEmpty then 0 else 1) < 30)) = true := by rfl)
    (hline : (apos.endLine == cpos.line) = true := by rfl) (hs : starEach (e :: es) X.env = (false, eval e X.env) :: starEach es X.env := by rfl) (hplain : (backTo cpos (starEach es X.env)).any (·.1) = false := by rfl) :
    PE X (.Call (.Attribute o name apos) (e :: es) [] cpos) (tBM K T r to t) := h ▸ pe_bm pa slot hty hm ho ha hbase hfew hline hs hplain
end
end L2

namespace L2
open PySem PySem.Spec PyProof.Rows
/-! ### dicts with texts as keys: read, written, made -/
theorem u1 {n : Nat} (h : n + 64 < cLine) : n + 1 < cLine := by omega
section
variable {K : PySem.W.Frag} {σ : St} {H : Hp} {v : V} {Q : VK} {td ty tv : TE} {a : Addr} {kvs kvs' : List (Key × V)} {s : Str}
theorem w_dget (q : td σ H fun x H1 => ty σ H1 fun y H2 => ∃ a v, x = .ref a ∧ DGet H2 a y (some v) ∧ Q v H2) : tDGet td ty σ H Q := q
theorem w_dgetAt (h : H a = some (.dK kvs)) (l : valV kvs (.inr s) = some v) {F : V → Prop} (q : F v) : ∃ a' v', V.ref a = .ref a' ∧ DGet H a' (.str s) (some v') ∧ F v' := ⟨a, v, rfl, by rw [← l]; exact DGet.k (k := .inr s) h, q⟩
theorem w_dput {nx b' c' : St → Hp → Prop} {rt : VK} (q : tv σ H fun v H1 => td σ H1 fun x H2 => ty σ H2 fun y H3 => ∃ a H4, x = .ref a ∧ DPut H3 a y v H4 ∧ nx σ H4) : sDPut td ty tv ⟨nx, rt, b', c'⟩ σ H := q
theorem w_dputAt (h : H a = some (.dK kvs)) (hl : kvs.length < 1000) (e : putK kvs (.inr s) v = kvs') {F : Hp → Prop} (q : F (upd H a (.dK kvs'))) : ∃ a' H4, V.ref a = .ref a' ∧ DPut H a' (.str s) v H4 ∧ F H4 :=
  ⟨a, _, rfl, DPut.k (k := .inr s) h (by rw [sizeLine_eq]; omega), by rw [e]; exact q⟩
theorem w_disp {trs : List (TE × TE)} (q : ∀ p, H p = none → tPairs trs σ (upd H p (.dK [])) fun ps H2 => H2 p = some (.dK []) ∧ ∃ kvs : List (Key × V), ps = kvs.map (fun kv => (kV kv.1, kv.2)) ∧ kvs.length ≤ 15 ∧ Q (.ref p) (upd H2 p (.dK (mergeK [] kvs)))) : tDisp trs σ H Q := q
theorem w_pair0 {Qp : List (V × V) → Hp → Prop} (q : Qp [] H) : tPairs [] σ H Qp := q
theorem w_pair1 {Qp : List (V × V) → Hp → Prop} {tk tv : TE} {r : List (TE × TE)} (q : tk σ H fun x H1 => tv σ H1 fun y H2 => tPairs r σ H2 fun ps H3 => Qp ((x, y) :: ps) H3) : tPairs ((tk, tv) :: r) σ H Qp := q
end
/-- what stands elsewhere than at t stays -/
def Fr (t : Addr) (H H' : Hp) : Prop := ∀ b o, b ≠ t → H b = some o → H' b = some o
theorem Fr.refl (t : Addr) (H : Hp) : Fr t H H := fun _ _ _ e => e
theorem Fr.trans {t : Addr} {H H' H'' : Hp} (h : Fr t H H') (h' : Fr t H' H'') : Fr t H H'' := fun b o n e => h' b o n (h b o n e)
theorem Fr.upd {t : Addr} {H H' : Hp} (h : Fr t H H') (o : HO) : Fr t H (upd H' t o) := fun b u n e => by
  rw [upd_ne n]
  exact h b u n e
theorem Fr.same {t : Addr} {H H' : Hp} (h : Same H H') : Fr t H H' := fun b o _ e => h b o e
theorem Fr.sq {t : Addr} {H H' : Hp} {b : Bool} {K : PySem.W.Frag} {a : Addr} {xs : List V} (f : Fr t H H') (ht : ∃ kvs, H t = some (.dK kvs)) (h : Sq b K H a xs) : Sq b K H' a xs := by
  obtain ⟨kvs, ht⟩ := ht
  cases b with
  | true =>
    have h : SqL K H a xs := h
    rcases h with (h | ⟨o, h⟩) | h
    · exact .inl (.inl (f _ _ (fun e => by rw [e, ht] at h; cases h) h))
    · exact .inl (.inr ⟨o, f _ _ (fun e => by rw [e, ht] at h; cases h) h⟩)
    · exact .inr h
  | false =>
    have h : SqT K H a xs := h
    rcases h with (h | ⟨o, h⟩) | h
    · exact .inl (.inl (f _ _ (fun e => by rw [e, ht] at h; cases h) h))
    · exact .inl (.inr ⟨o, f _ _ (fun e => by rw [e, ht] at h; cases h) h⟩)
    · exact .inr h
/-- the tape: its cells, place, great number, how many left, seed, turn -/
def tapeF (l : Addr) (at_ gr le se tu : Int) : List (Key × V) := [(.inr "cells", .ref l), (.inr "at", .int at_), (.inr "great", .int gr), (.inr "left", .int le), (.inr "seed", .int se), (.inr "turn", .int tu)]
def IsTape (H : Hp) (t l : Addr) : Prop := ∃ (cs : List Int) (at_ gr le se tu : Int), H t = some (.dK (tapeF l at_ gr le se tu)) ∧ H l = some (.lst (cs.map V.int)) ∧ 0 ≤ at_
theorem IsTape.same {H H' : Hp} {t l : Addr} (s : Same H H') (h : IsTape H t l) : IsTape H' t l := by
  obtain ⟨cs, a, b, c, d, e, h1, h2, h3⟩ := h
  exact ⟨cs, a, b, c, d, e, s _ _ h1, s _ _ h2, h3⟩
theorem IsTape.upd {H : Hp} {t l D : Addr} {o : HO} (h1 : D ≠ t) (h2 : D ≠ l) (h : IsTape H t l) : IsTape (upd H D o) t l := by
  obtain ⟨cs, a, b, c, d, e, g1, g2, g3⟩ := h
  exact ⟨cs, a, b, c, d, e, (upd_ne (Ne.symm h1)).trans g1, (upd_ne (Ne.symm h2)).trans g2, g3⟩
theorem val_neg {j k : Key} {u : V} {kvs : List (Key × V)} (h : ¬ j = k) : valV ((j, u) :: kvs) k = valV kvs k := valV_neg h
theorem val_pos {k : Key} {u : V} {kvs : List (Key × V)} : valV ((k, u) :: kvs) k = some u := valV_pos rfl
theorem tape_cells {l : Addr} {at_ gr le se tu : Int} : valV (tapeF l at_ gr le se tu) (.inr "cells") = some (.ref l) := val_pos
theorem tape_at {l : Addr} {at_ gr le se tu : Int} : valV (tapeF l at_ gr le se tu) (.inr "at") = some (.int at_) := (val_neg (by decide +kernel)).trans val_pos
theorem tape_great {l : Addr} {at_ gr le se tu : Int} : valV (tapeF l at_ gr le se tu) (.inr "great") = some (.int gr) := (val_neg (by decide +kernel)).trans ((val_neg (by decide +kernel)).trans val_pos)
theorem tape_left {l : Addr} {at_ gr le se tu : Int} : valV (tapeF l at_ gr le se tu) (.inr "left") = some (.int le) := (val_neg (by decide +kernel)).trans ((val_neg (by decide +kernel)).trans ((val_neg (by decide +kernel)).trans val_pos))
theorem tape_seed {l : Addr} {at_ gr le se tu : Int} : valV (tapeF l at_ gr le se tu) (.inr "seed") = some (.int se) := (val_neg (by decide +kernel)).trans ((val_neg (by decide +kernel)).trans ((val_neg (by decide +kernel)).trans ((val_neg (by decide +kernel)).trans val_pos)))
theorem tape_turn {l : Addr} {at_ gr le se tu : Int} : valV (tapeF l at_ gr le se tu) (.inr "turn") = some (.int tu) := (val_neg (by decide +kernel)).trans ((val_neg (by decide +kernel)).trans ((val_neg (by decide +kernel)).trans ((val_neg (by decide +kernel)).trans ((val_neg (by decide +kernel)).trans val_pos))))
/-- a store at a key that is there -/
def replK (kvs : List (Key × V)) (k : Key) (v : V) : List (Key × V) := kvs.map fun kv => if kv.1 = k then (kv.1, v) else kv
theorem putK_repl {kvs : List (Key × V)} {k : Key} {v u : V} (h : valV kvs k = some u) : putK kvs k v = replK kvs k v := by
  unfold putK
  rw [valV_any, h]
  rfl
theorem repl_pos {kvs : List (Key × V)} {k : Key} {v u : V} : replK ((k, u) :: kvs) k v = (k, v) :: replK kvs k v := by
  show (if k = k then _ else _) :: _ = _
  rw [if_pos rfl]; rfl
theorem repl_neg {kvs : List (Key × V)} {k j : Key} {v u : V} (h : ¬ j = k) : replK ((j, u) :: kvs) k v = (j, u) :: replK kvs k v := by
  show (if j = k then _ else _) :: _ = _
  rw [if_neg h]; rfl
theorem tape_setAt {l : Addr} {at_ gr le se tu z : Int} : putK (tapeF l at_ gr le se tu) (.inr "at") (.int z) = tapeF l z gr le se tu := by
  rw [putK_repl tape_at]; unfold tapeF
  rw [repl_neg (by decide +kernel), repl_pos, repl_neg (by decide +kernel), repl_neg (by decide +kernel), repl_neg (by decide +kernel), repl_neg (by decide +kernel)]; rfl
theorem tape_setGreat {l : Addr} {at_ gr le se tu z : Int} : putK (tapeF l at_ gr le se tu) (.inr "great") (.int z) = tapeF l at_ z le se tu := by
  rw [putK_repl tape_great]; unfold tapeF
  rw [repl_neg (by decide +kernel), repl_neg (by decide +kernel), repl_pos, repl_neg (by decide +kernel), repl_neg (by decide +kernel), repl_neg (by decide +kernel)]; rfl
theorem tape_setLeft {l : Addr} {at_ gr le se tu z : Int} : putK (tapeF l at_ gr le se tu) (.inr "left") (.int z) = tapeF l at_ gr z se tu := by
  rw [putK_repl tape_left]; unfold tapeF
  rw [repl_neg (by decide +kernel), repl_neg (by decide +kernel), repl_neg (by decide +kernel), repl_pos, repl_neg (by decide +kernel), repl_neg (by decide +kernel)]; rfl
theorem tape_setSeed {l : Addr} {at_ gr le se tu z : Int} : putK (tapeF l at_ gr le se tu) (.inr "seed") (.int z) = tapeF l at_ gr le z tu := by
  rw [putK_repl tape_seed]; unfold tapeF
  rw [repl_neg (by decide +kernel), repl_neg (by decide +kernel), repl_neg (by decide +kernel), repl_neg (by decide +kernel), repl_pos, repl_neg (by decide +kernel)]; rfl
theorem tape_setTurn {l : Addr} {at_ gr le se tu z : Int} : putK (tapeF l at_ gr le se tu) (.inr "turn") (.int z) = tapeF l at_ gr le se z := by
  rw [putK_repl tape_turn]; unfold tapeF
  rw [repl_neg (by decide +kernel), repl_neg (by decide +kernel), repl_neg (by decide +kernel), repl_neg (by decide +kernel), repl_neg (by decide +kernel), repl_pos]; rfl
theorem tape_len {l : Addr} {at_ gr le se tu : Int} : (tapeF l at_ gr le se tu).length < 1000 := by show 6 < 1000; omega
end L2

namespace L2
open PySem PySem.Spec PyProof.Rows
/-! ### o[i] += e in lists; comprehensions with any state, with or without a test -/
def rGetL : V → V → Hp → VK → Prop := fun o i H Q => ∃ p xs k x, o = .ref p ∧ i = .int k ∧ 0 ≤ k ∧ H p = some (.lst xs) ∧ xs[k.toNat]? = some x ∧ Q x H
theorem get_list {X : Cx} : PGet X rGetL := by
  intro pins s σ H o i ov iv Q I ro ri h
  obtain ⟨p, xs, k, x, rfl, rfl, h0, hp, hx, q⟩ := h
  cases ro
  obtain ⟨t, rfl⟩ := ri
  obtain ⟨its, r, pl, hz⟩ := I.list (SqL.of hp)
  obtain ⟨w, ew, rw'⟩ := r.get hx
  have h1 := (List.getElem?_eq_some_iff.mp hx).1
  rw [sizeLine_eq] at hz
  exact wpAny_getItem_list pl.isList h0 (by omega) (by simpa using ew) ⟨x, H, I, rw', q⟩
section
variable {K : PySem.W.Frag} {σ : St} {H : Hp} {tt : TT} {te : TE} {g : TG} {vs : List Nat} {Q : VK}
theorem w_augS {to ti te : TE} {tget : V → V → Hp → VK → Prop} {tip : TIp} {tset : TSet} {nx b' c' : St → Hp → Prop} {rt : VK} (q : to σ H fun o H1 => ti σ H1 fun i H2 => tget o i H2 fun x H3 => te σ H3 fun y H4 => tip x y H4 fun z H5 => tset o i z H5 fun H6 => nx σ H6) : tAugS to ti te tget tip tset ⟨nx, rt, b', c'⟩ σ H := q
theorem w_prop {C : Addr} {sp : Sp} {dvs : List V} {E : XK} {ta : TE} (q : ta σ H fun x H1 => ∃ a dx fs, x = .ref a ∧ H1 a = some (.ins C dx fs) ∧ sp (.ref a :: dvs) H1 Q E) : tProp C sp dvs E ta σ H Q := q
theorem w_propAt {p C dx : Addr} {fs : List (Str × V)} {F : Addr → Prop} (h : H p = some (.ins C dx fs)) (q : F p) : ∃ a dx fs, V.ref p = .ref a ∧ H a = some (.ins C dx fs) ∧ F a := ⟨p, dx, fs, rfl, h, q⟩
theorem w_lstRg {t : L2.St → Hp → (Int → Int → Hp → Prop) → Prop} (q : t σ H fun a b H1 => RgOk a b ∧ ∀ q, H1 q = none → Q (.ref q) (upd H1 q (.lst (rgV a b)))) : tLstRg t σ H Q := q
theorem w_tupRg {t : L2.St → Hp → (Int → Int → Hp → Prop) → Prop} (q : t σ H fun a b H1 => RgOk a b ∧ ∀ q, H1 q = none → Q (.ref q) (upd H1 q (.tup (rgV a b)))) : tTupRg t σ H Q := q
theorem w_rg1 {ta : TE} {QR : Int → Int → Hp → Prop} (q : ta σ H fun x H1 => ∃ n, x = .int n ∧ QR 0 n H1) : tRg1 ta σ H QR := q
theorem w_rg2 {ta tb : TE} {QR : Int → Int → Hp → Prop} (q : ta σ H fun x H1 => tb σ H1 fun y H2 => ∃ i j, x = .int i ∧ y = .int j ∧ QR i j H2) : tRg2 ta tb σ H QR := q
theorem w_getI {p : Addr} {ns : List Int} {k : Int} (h : H p = some (.lst (ns.map V.int))) (h0 : 0 ≤ k) (h1 : k < ns.length) (q : Q (.int (nth ns k)) H) : rGetL (.ref p) (.int k) H Q := by
  refine ⟨p, _, k, .int (nth ns k), rfl, rfl, h0, h, ?_, q⟩
  have e : k = ((k.toNat : Nat) : Int) := (Int.toNat_of_nonneg h0).symm
  rw [vec_get (ns := ns) (i := k.toNat) (by omega), ← e]
theorem l_compG {J : It} {n : Nat} {G : Hp → Prop} {Y : Nat → Hp → V → Hp → Prop} (w : Walk J n G Y) (hz : n < sizeLine) (Sv : Addr → Nat → List V → Hp → Prop) (h0 : ∀ D, H D = none → Sv D 0 [] (upd H D (.lst []))) (hG : ∀ D i acc H', Sv D i acc H' → G H')
    (hs : ∀ i x H1 H2 D acc (NT : VK) (NF : Hp → Prop), i < n → H D = none → Sv D i acc H1 → H1 D = some (.lst acc) → acc.length ≤ i → Y i H1 x H2 → (∀ y H5, H5 D = some (.lst acc) → Sv D (i + 1) (acc ++ [y]) (upd H5 D (.lst (acc ++ [y]))) → NT y H5) →
      (∀ H4, H4 D = some (.lst acc) → Sv D (i + 1) acc H4 → NF H4) → g x (wipe σ vs) H2 fun σ2 H3 => wipe σ2 vs = wipe σ vs ∧ tt σ2 H3 fun b H4 => if b = true then te σ2 H4 NT else NF H4)
    (k : ∀ D H' ys, H D = none → Sv D n ys H' → H' D = some (.lst ys) → ys.length ≤ n → Q (.ref D) H') : CompOk J g tt te vs σ H Q := by
  intro D hD
  refine lc_it w (fun i H' => ∃ acc, H' D = some (.lst acc) ∧ acc.length ≤ i ∧ Sv D i acc H') ⟨[], upd_same, Nat.le_refl _, h0 D hD⟩ (fun i H' _ ⟨acc, _, _, h⟩ => hG D i acc H' h) ?_ ?_
  · rintro i x H1 H2 hi ⟨acc, e, hl, st⟩ hy
    exact hs i x H1 H2 D acc _ _ hi hD st e hl hy (fun y H5 e5 s5 => ⟨acc, e5, Nat.lt_of_le_of_lt hl (Nat.lt_trans hi hz), acc ++ [y], upd_same, by rw [List.length_append, List.length_singleton]; omega, s5⟩) (fun H4 e4 s4 => ⟨acc, e4, by omega, s4⟩)
  · rintro H' ⟨acc, e, hl, st⟩
    exact k D H' acc hD st e hl
/-- for .. in range(n), of any state -/
theorem l_compGR {n : Int} {j : Nat} (h1 : -(2 ^ 62) ≤ n) (h2 : n < 16000000) (Sv : Addr → Nat → List V → Hp → Prop) (hw : ∀ x : V, wipe ((wipe σ vs).set j (some x)) vs = wipe σ vs) (h0 : ∀ D, H D = none → Sv D 0 [] (upd H D (.lst [])))
    (hs : ∀ (i : Nat) H1 D acc (NT : VK) (NF : Hp → Prop), (i : Int) < n → H D = none → Sv D i acc H1 → H1 D = some (.lst acc) → acc.length ≤ i → (∀ y H5, H5 D = some (.lst acc) → Sv D (i + 1) (acc ++ [y]) (upd H5 D (.lst (acc ++ [y]))) → NT y H5) →
      (∀ H4, H4 D = some (.lst acc) → Sv D (i + 1) acc H4 → NF H4) → tt ((wipe σ vs).set j (some (.int (i : Int)))) H1 fun b H4 => if b = true then te ((wipe σ vs).set j (some (.int (i : Int)))) H4 NT else NF H4)
    (k : ∀ D H' ys, H D = none → Sv D n.toNat ys H' → H' D = some (.lst ys) → ys.length ≤ n.toNat → Q (.ref D) H') :
    ∃ j' : Int, [V.int n] = [.int j'] ∧ -(2 ^ 62) ≤ j' ∧ j' < 2 ^ 62 ∧ CompOk (Itr 0 j'.toNat) (gName j) tt te vs σ H Q := by
  refine ⟨n, rfl, h1, by omega, l_compG (walk_range (lo := 0) (n := n.toNat)) (by rw [sizeLine_eq]; omega) Sv h0 (fun _ _ _ _ _ => trivial) (fun i x H1 H2 D acc NT NF hi hD st e1 hl hy hT hF => ?_) k⟩
  obtain ⟨e, ex⟩ := hy
  subst e ex
  show wipe ((wipe σ vs).set j (some (.int (0 + (i : Int))))) vs = wipe σ vs ∧ tt ((wipe σ vs).set j (some (.int (0 + (i : Int))))) _ fun b H4 => if b = true then te ((wipe σ vs).set j (some (.int (0 + (i : Int))))) H4 NT else NF H4
  rw [Int.zero_add]
  exact ⟨hw _, hs i _ D acc NT NF (by omega) hD st e1 hl hT hF⟩
/-- for .. in a list or a tuple, of any state -/
theorem l_compGS {b : Bool} {a : Addr} {j : Nat} (xs : List V) (hz : xs.length < sizeLine) (Sv : Addr → Nat → List V → Hp → Prop) (hx : Sq b K H a xs) (hw : ∀ x : V, wipe ((wipe σ vs).set j (some x)) vs = wipe σ vs) (h0 : ∀ D, H D = none → Sv D 0 [] (upd H D (.lst []))) (hG : ∀ D i acc H', Sv D i acc H' → Sq b K H' a xs)
    (hs : ∀ (i : Nat) x H1 D acc (NT : VK) (NF : Hp → Prop), i < xs.length → xs[i]? = some x → H D = none → Sv D i acc H1 → H1 D = some (.lst acc) → acc.length ≤ i → (∀ y H5, H5 D = some (.lst acc) → Sv D (i + 1) (acc ++ [y]) (upd H5 D (.lst (acc ++ [y]))) → NT y H5) →
      (∀ H4, H4 D = some (.lst acc) → Sv D (i + 1) acc H4 → NF H4) → tt ((wipe σ vs).set j (some x)) H1 fun b H4 => if b = true then te ((wipe σ vs).set j (some x)) H4 NT else NF H4)
    (k : ∀ D H' ys, H D = none → Sv D xs.length ys H' → H' D = some (.lst ys) → ys.length ≤ xs.length → Q (.ref D) H') :
    ∃ a', V.ref a = .ref a' ∧ ((∃ xs, SqL K H a' xs) ∧ CompOk (Itl K a') (gName j) tt te vs σ H Q ∨ (∃ xs, SqT K H a' xs) ∧ CompOk (Itt K a') (gName j) tt te vs σ H Q) := by
  refine ⟨a, rfl, ?_⟩
  cases b with
  | true =>
    refine .inl ⟨⟨xs, hx⟩, l_compG (walk_list (xs := xs)) hz Sv h0 hG (fun i x H1 H2 D acc NT NF hi hD st e1 hl hy hT hF => ?_) k⟩
    obtain ⟨e, ex⟩ := hy
    subst e
    exact ⟨hw _, hs i x _ D acc NT NF hi ex hD st e1 hl hT hF⟩
  | false =>
    refine .inr ⟨⟨xs, hx⟩, l_compG (walk_tup (xs := xs)) hz Sv h0 hG (fun i x H1 H2 D acc NT NF hi hD st e1 hl hy hT hF => ?_) k⟩
    obtain ⟨e, ex⟩ := hy
    subst e
    exact ⟨hw _, hs i x _ D acc NT NF hi ex hD st e1 hl hT hF⟩
end
end L2

namespace PySem.W
open PySem PySem.Calls PyProof.Rows Builtin
/-! ### == and != of instances whose class has its own __eq__ -/
section
variable {prog : Program} {w : World} {A : Around} {E : Value → Shared → Prop} {s : Shared} {K : Frag} {x C L f : Addr} {h₀ : Heap} {m : Str → Option Value} {ox : Obj} {od : Option Obj} {name : Str} {b tb : Value}
theorem ifBound_B {M : Model} {args : List Value} {id : String} {Q : Option Value → Shared → Prop} (X : K.In s.heap) (I : InstAt s.heap x ox C od) (hs : findIn K (.ref C) name = some (some (.builtin id)))
    (hb : ∀ self, bindSpecial (.builtin id) self = pure (.builtin id, [self])) (h : wpAny M A (call (.builtin id) (.ref x :: args)) (fun v => Q (some v)) E s) : wpAny M A (callSpecialIfBound? (.ref x) name args) Q E s := by
  simp only [callSpecialIfBound?, bindSpecialIfBound?]
  refine wpAny_holding (wpAny_bind (wpAny_bind (wpAny_bind (I.type.here ((looks_findIn X hs).here ?_)))))
  refine wpAny_bind (wpAny_askSetting (wpAny_ite ?_))
  have fin : wpAny M A (call (.builtin id) ([.ref x] ++ args) >>= fun v => pure (some v)) Q E s := wpAny_bind (wpAny_mono h (fun v s' h' => wpAny_pure h') fun _ _ h' => h')
  split
  · exact wpAny_bind ((Looks.of_pure (hb _)).here (wpAny_pure (by exact fin)))
  · exact wpAny_tryCatch (wpAny_bind ((Looks.of_pure (hb _)).here (wpAny_pure (by exact fin))))
theorem obj_ne {Q : Value → Shared → Prop} (hu : A.in1.units < cLine) (X : K.In s.heap) (I : InstAt s.heap x ox C od) (hm : mroIn K C (.type "object") = some true) (hs : findIn K (.ref C) "__eq__" = some (some (.ref f))) (hf : isFn K (.ref f) = true)
    (h : wpAny (model prog w) A.in1 (call (.ref f) [.ref x, b]) (fun v s' => ∃ c, v = .bool c ∧ Q (.bool (!c)) s') E s) : wpAny (model prog w) A (call (.builtin "object.__ne__") [.ref x, b]) Q E s := by
  refine wpAny_call (codeAny_call_builtin PySem.F.cmp_object.ne.plain PySem.F.cmpEntry_ne (check_slot PySem.F.cmpKind_ne PySem.F.cmpSplit_ne (I.type.andThen (looks_mroIn X hm)) (PySem.F.cmpArgs_ne _ _) ?_))
  unfold Builtin.«object.__ne__»
  refine wpAny_bind (m := slotArgs "__ne__" 1 _) (wpAny_pure ?_)
  refine wpAny_bind (m := cRoomFor _ _) (wpAny_cRoomFor hu ?_)
  refine wpAny_bind (m := callSpecialIfBound? (.ref x) (Str.ofString "__eq__") _) (ifBound_K X I hs hf (wpAny_mono h (fun r s' hq => ?_) fun _ _ y => y))
  obtain ⟨c, rfl, q⟩ := hq
  refine wpAny_bind (m := truthy (.bool _)) (wpAny_truthy_bool ?_)
  exact wpAny_pure q
theorem ne_own {Q : Value → Shared → Prop} (hu : A.units + 1 < cLine) (F : Fr h₀ L s.heap m) (X₀ : K.In h₀) (I : InstAt s.heap x ox C od) (hb : Looks (model prog w) s.heap (typeOf b) tb) (hn : notFirst K C tb = true)
    (hne : findIn K (.ref C) "__ne__" = some (some (.builtin "object.__ne__"))) (hm : mroIn K C (.type "object") = some true) (hs : findIn K (.ref C) "__eq__" = some (some (.ref f))) (hf : isFn K (.ref f) = true)
    (h : wpAny (model prog w) A.in1 (call (.ref f) [.ref x, b]) (fun v s' => ∃ c, v = .bool c ∧ Q (.bool (!c)) s') E s) : wpAny (model prog w) A (richCompare .NotEq (.ref x) b) Q E s := by
  have X := X₀.keeps F.keep
  have one : wpAny (model prog w) A (tryCompare (.ref x) (cmpInfo .NotEq).2.1 b) (fun r s' => ∃ v, r = some v ∧ Q v s') E s := by
    unfold tryCompare
    refine wpAny_bind (ifBound_B X I hne PySem.F.cmp_object.ne.bind (obj_ne (by show A.units + 1 < _; exact hu) X I hm hs hf (wpAny_mono h (fun v s' hv => ?_) fun _ _ e => e)))
    obtain ⟨c, rfl, q⟩ := hv
    exact ⟨c, rfl, wpAny_pure ⟨_, rfl, q⟩⟩
  unfold richCompare
  simp only [oneThing_ref]
  refine wpAny_holding (wpAny_bind (wpAny_cRoomFor (Nat.lt_of_succ_lt hu) ?_))
  refine wpAny_bind (I.type.here (wpAny_bind (hb.here ?_)))
  split
  · rename_i q
    have e : subIn K tb (.ref C) = some false := by
      rcases Bool.or_eq_true_iff.mp hn with e | e
      · rw [beq_iff_eq.mp e] at q; simp at q
      · exact beq_iff_eq.mp e
    refine wpAny_bind ((looks_subIn X e).here ?_)
    simp only [Bool.false_eq_true, if_false]
    refine wpAny_bind (wpAny_mono one (fun r s' z => ?_) fun _ _ e => e)
    obtain ⟨v, rfl, hq⟩ := z
    exact wpAny_pure hq
  · refine wpAny_bind (wpAny_pure ?_)
    simp only [Bool.false_eq_true, if_false]
    refine wpAny_bind (wpAny_mono one (fun r s' z => ?_) fun _ _ e => e)
    obtain ⟨v, rfl, hq⟩ := z
    exact wpAny_pure hq
end
end PySem.W
namespace L2
open PySem PySem.Spec PyProof.Rows
/-- what a class with its own == says of itself -/
structure EqOf (K : PySem.W.Frag) (C f : Addr) : Prop where
  eq : PySem.W.findIn K (.ref C) "__eq__" = some (some (.ref f))
  fn : PySem.W.isFn K (.ref f) = true
  ne : PySem.W.findIn K (.ref C) "__ne__" = some (some (.builtin "object.__ne__"))
  mro : PySem.W.mroIn K C (.type "object") = some true
/-- x == y, x an instance of the class at C: what its __eq__ (promise sp) answers, a bool -/
def rEqO (K : PySem.W.Frag) (C : Addr) (sp : Sp) : R2 := fun x y H Q => ∃ a dx fs t, x = .ref a ∧ H a = some (.ins C dx fs) ∧ TyX K H y t ∧ PySem.W.notFirst K C t = true ∧ sp [x, y] H (fun v H' => ∃ c, v = .bl c ∧ Q (.bl c) H') (fun _ _ _ => False)
def rNeO (K : PySem.W.Frag) (C : Addr) (sp : Sp) : R2 := fun x y H Q => ∃ a dx fs t, x = .ref a ∧ H a = some (.ins C dx fs) ∧ TyX K H y t ∧ PySem.W.notFirst K C t = true ∧ sp [x, y] H (fun v H' => ∃ c, v = .bl c ∧ Q (.bl (!c)) H') (fun _ _ _ => False)
section
variable {X : Cx} {CX : CXT} {C f : Addr} {fd : FuncData} {ps : List Str} {sp : Sp} {n : Nat}
theorem own_run {A : Around} {pins : List (Addr × Obj)} {σ : St} {H : Hp} {s : Shared} {Q : VK} {a : Addr} {y : V} {u : Value} (F : FnOk X.prog X.w X.K X.mg X.base CX n f fd ps sp) (hr : Room n A) (hfr : A.frames = X.A.frames) (hb : Binds X.K fd ps []) (hx : Passes CX X (fun _ _ _ => False))
    (I : Inv X pins σ H s) (ry : RelV y u) (h : sp [.ref a, y] H Q (fun _ _ _ => False)) : wpAny (model X.prog X.w) A (call (.ref f) [.ref a, u]) (EP X pins σ Q) X.xe s := by
  have e0 : Env0 X.prog X.w X.K X.mg X.base A X.stack s H := by
    have e := I.env0
    exact ⟨by rw [hfr]; exact e.frames, e.mod, e.bs, e.bsz, e.funs, e.frf, e.hok, e.bare⟩
  have hl := F.len _ _ _ _ h
  have r2 : Vals [V.ref a, y] [Value.ref a, u] := .cons rfl (.cons ry .nil)
  refine wpAny_call (codeAny_mono (F.run A X.stack s H ⟨[.ref a, u], []⟩ [.ref a, u] [.ref a, y] _ _ hr e0 (by
    have := hb s [.ref a, u] I.kIn (by simpa using hl)
    simpa using this) r2 h) fun r s' hq => ?_)
  cases r with
  | error e => exact hx pins σ H s e s' I hq
  | ok fl =>
    cases fl with
    | ret w => exact I.after hq
    | next => exact False.elim hq
    | brk => exact False.elim hq
    | cont => exact False.elim hq
theorem op_eqO (e : EqOf X.K C f) (F : FnOk X.prog X.w X.K X.mg X.base CX n f fd ps sp) (hr : Room n X.A) (hb : Binds X.K fd ps []) (hx : Passes CX X (fun _ _ _ => False)) : OpR X (compareOp .Eq) (rEqO X.K C sp) := by
  intro pins s σ H x y v u Q I rx ry hq
  obtain ⟨a, dx, fs, t, rfl, ha, ty, hn, h⟩ := hq
  obtain rfl : v = Value.ref a := rx
  obtain ⟨mA, J, _⟩ := ins_get I.hok ha
  obtain ⟨od, J, _⟩ := J.look
  obtain ⟨m, hF⟩ := I.fr
  obtain ⟨P, Z, p, _⟩ := kit_of I ry ty
  show wpAny (model X.prog X.w) X.A (richCompare .Eq (.ref a) u) (EP X pins σ Q) X.xe s
  have hu : X.A.units < cLine := by have := hr.un; omega
  refine PySem.W.cmp_K (op := .Eq) hu hF I.ok.mod.kin J (Z.ty _ _ I.kIn p) hn e.eq e.fn ?_
  refine wpAny_mono (own_run F hr rfl hb hx I ry h) (fun r s' z => ?_) fun _ _ z => z
  obtain ⟨z, H', I', rz, c, ez, q⟩ := z
  subst ez
  cases rz
  exact ⟨.bl c, H', I', rfl, q⟩
theorem op_neO (e : EqOf X.K C f) (F : FnOk X.prog X.w X.K X.mg X.base CX n f fd ps sp) (hr : Room (n + 1) X.A) (hb : Binds X.K fd ps []) (hx : Passes CX X (fun _ _ _ => False)) : OpR X (compareOp .NotEq) (rNeO X.K C sp) := by
  intro pins s σ H x y v u Q I rx ry hq
  obtain ⟨a, dx, fs, t, rfl, ha, ty, hn, h⟩ := hq
  obtain rfl : v = Value.ref a := rx
  obtain ⟨mA, J, _⟩ := ins_get I.hok ha
  obtain ⟨od, J, _⟩ := J.look
  obtain ⟨m, hF⟩ := I.fr
  obtain ⟨P, Z, p, _⟩ := kit_of I ry ty
  show wpAny (model X.prog X.w) X.A (richCompare .NotEq (.ref a) u) (EP X pins σ Q) X.xe s
  have hu : X.A.units + 1 < cLine := by have := hr.un; omega
  refine PySem.W.ne_own hu hF I.ok.mod.kin J (Z.ty _ _ I.kIn p) hn e.ne e.mro e.eq e.fn ?_
  refine wpAny_mono (own_run (A := X.A.in1) F hr.in1 rfl hb hx I ry h) (fun r s' z => ?_) fun _ _ z => z
  obtain ⟨z, H', I', rz, c, ez, q⟩ := z
  subst ez
  cases rz
  exact ⟨c, rfl, .bl (!c), H', I', rfl, q⟩
end
end L2
namespace L2
open PySem PySem.Spec PyProof.Rows
/-- what isinstance asks of an own class, and of tuples, numbers and texts beside it -/
structure OwnC (K : PySem.W.Frag) (C : Addr) : Prop where
  cls : PySem.W.findIn K (.ref C) "__class__" = some (some (.builtin "object.__class__"))
  get : PySem.W.specialIn K (.builtin "object.__class__") "__get__" = some (some (.builtin "getset_descriptor.__get__"))
  tak : PySem.W.takesIn K (.builtin "object.__class__") = some true
  mro : PySem.W.mroIn K C (.type "object") = some true
  isc : PySem.W.isClsIn K C = true
  typ : PySem.W.typeIn K (.ref C) = some (.type "type")
  sT : PySem.W.subIn K (.type "tuple") (.ref C) = some false
  sI : PySem.W.subIn K (.type "int") (.ref C) = some false
  sS : PySem.W.subIn K (.type "str") (.ref C) = some false
section
variable {K : PySem.W.Frag} {C : Addr} {H : Hp} {Q : VK} {x : V}
theorem OwnC.tyx (o : OwnC K C) (cl : Cls K C) {a dx : Addr} {fs : List (Str × V)} (h : H a = some (.ins C dx fs)) : TyX K H (.ref a) (.ref C) := .base (.ins h cl o.cls o.get o.tak o.mro)
theorem kit_self : PySem.W.kitOne K (.ref C) (.ref C) = some true := if_pos (beq_self_eq_true _)
theorem kit_no {n : String} (h1 : PySem.W.isClsIn K C = true) (h2 : PySem.W.typeIn K (.ref C) = some (.type "type")) (h : PySem.W.subIn K (.type n) (.ref C) = some false) : PySem.W.kitOne K (.type n) (.ref C) = some false := by
  have h1' : (PySem.W.clsIn K C).isSome = true := h1
  unfold PySem.W.kitOne
  rw [if_neg (by intro e; cases (beq_iff_eq.mp e))]
  show (if ((PySem.W.clsIn K C).isSome && PySem.W.typeIn K (.ref C) == some (.type "type")) = true then PySem.W.subIn K (.type n) (.ref C) else none) = some false
  rw [if_pos (by rw [h1', h2]; rfl)]
  exact h
theorem first_self : PySem.W.notFirst K C (.ref C) = true := by simp [PySem.W.notFirst]
theorem first_no {n : String} (h : PySem.W.subIn K (.type n) (.ref C) = some false) : PySem.W.notFirst K C (.type n) = true := by
  unfold PySem.W.notFirst
  rw [h]
  simp
theorem w_isOwn (o : OwnC K C) (cl : Cls K C) {a dx : Addr} {fs : List (Str × V)} (h : H a = some (.ins C dx fs)) (q : Q (.bl true) H) : rIsi K [.ref a, .ref C] H Q := ⟨_, _, _, _, _, rfl, .own C, o.tyx cl h, kit_self, q⟩
theorem w_isNot (o : OwnC K C) {n : String} (ht : TyX K H x (.type n)) (hs : PySem.W.subIn K (.type n) (.ref C) = some false) (q : Q (.bl false) H) : rIsi K [x, .ref C] H Q := ⟨_, _, _, _, _, rfl, .own C, ht, kit_no o.isc o.typ hs, q⟩
theorem w_rep {l : Addr} {xs : List V} {k : Int} (h : H l = some (.lst xs)) (h0 : 0 ≤ k) (h1 : k ≤ 1000) (hz : xs.length ≤ 1000) (q : ∀ p, H p = none → Q (.ref p) (upd H p (.lst (List.replicate k.toNat xs).flatten))) : rRep (.ref l) (.int k) H Q :=
  ⟨l, k, xs, rfl, rfl, h, by omega, by omega, by
    rw [sizeLine_eq]
    have : xs.length * k.toNat ≤ 1000 * 1000 := Nat.mul_le_mul hz (by omega)
    omega, q⟩
end
/-! ### rows of any values; rows of new lists -/
def RRw (b : Bool) (K : PySem.W.Frag) : Rep (List V) := fun H v xs => ∃ a, v = .ref a ∧ Sq b K H a xs
theorem RRw.mono {b : Bool} {K : PySem.W.Frag} : RMono (RRw b K) := fun _ _ _ _ s ⟨a, e, h⟩ => ⟨a, e, s.sq h⟩
theorem RRw.tup {K : PySem.W.Frag} : RTup (RRw false K) := fun _ _ _ _ hD ⟨a, e, h⟩ => ⟨a, e, sq_hide hD h⟩
/-- D a list of new lists: their addresses, none twice, none there before -/
def FRows (H0 H : Hp) (D : Addr) (rows : List (List V)) : Prop := ∃ ps : List Addr, H D = some (.lst (ps.map V.ref)) ∧ ps.length = rows.length ∧ ps.Nodup ∧ (∀ p ∈ ps, H0 p = none) ∧ H0 D = none ∧ D ∉ ps ∧ ∀ (i : Nat) p r, ps[i]? = some p → rows[i]? = some r → H p = some (.lst r)
section
variable {K : PySem.W.Frag} {H0 H H' : Hp} {D : Addr} {rows : List (List V)}
theorem FRows.mono (s : Same H H') (f : FRows H0 H D rows) : FRows H0 H' D rows := by
  obtain ⟨ps, h1, h2, h3, h4, h5, h6, h7⟩ := f
  exact ⟨ps, s _ _ h1, h2, h3, h4, h5, h6, fun i p r a b => s _ _ (h7 i p r a b)⟩
theorem FRows.seq (f : FRows H0 H D rows) : RSeq true K (RRw true K) H (.ref D) rows := by
  obtain ⟨ps, h1, h2, h3, h4, h5, h6, h7⟩ := f
  refine ⟨D, _, rfl, Sq.lst h1, by rw [List.length_map]; exact h2, fun i y x hy hx => ?_⟩
  rw [List.getElem?_map] at hy
  cases e : ps[i]? with
  | none => rw [e] at hy; cases hy
  | some p =>
    rw [e] at hy
    cases hy
    exact ⟨p, rfl, Sq.lst (h7 i p x e hx)⟩
/-- a store into one of the rows -/
theorem FRows.set {i : Nat} {r r' : List V} (f : FRows H0 H D rows) (hi : rows[i]? = some r) : ∃ p, (∃ ps : List Addr, H D = some (.lst (ps.map V.ref)) ∧ ps[i]? = some p) ∧ H p = some (.lst r) ∧ H0 p = none ∧ p ≠ D ∧ FRows H0 (upd H p (.lst r')) D (rows.set i r') := by
  obtain ⟨ps, h1, h2, h3, h4, h5, h6, h7⟩ := f
  have hlt := (List.getElem?_eq_some_iff.mp hi).1
  have hp : ps[i]? = some (ps[i]'(by omega)) := List.getElem?_eq_getElem (by omega)
  generalize ps[i]'(by omega) = p at hp
  have hm := List.mem_of_getElem? hp
  have hpD : p ≠ D := fun e => h6 (by rw [← e]; exact hm)
  refine ⟨p, ⟨ps, h1, hp⟩, h7 i p r hp hi, h4 p hm, hpD, ps, (upd_ne (Ne.symm hpD)).trans h1, by rw [List.length_set]; exact h2, h3, h4, h5, h6, fun j q x hq hx => ?_⟩
  rw [List.getElem?_set] at hx
  by_cases e : i = j
  · subst e
    rw [if_pos rfl, if_pos hlt] at hx
    rw [hp] at hq
    cases hq
    cases hx
    exact upd_same
  · rw [if_neg e] at hx
    have hqp : q ≠ p := fun z => e (by
      subst z
      have a := (List.getElem?_eq_some_iff.mp hp)
      have b := (List.getElem?_eq_some_iff.mp hq)
      exact (List.getElem_inj h3).mp (a.2.trans b.2.symm))
    rw [upd_ne hqp]
    exact h7 j q x hq hx
theorem map_ref_inj : ∀ {ps qs : List Addr}, ps.map V.ref = qs.map V.ref → ps = qs
  | [], [], _ => rfl
  | [], q :: qs, h => by cases h
  | p :: ps, [], h => by cases h
  | p :: ps, q :: qs, h => by
    rw [List.map_cons, List.map_cons] at h
    injection h with h1 h2
    injection h1 with h1
    rw [h1, map_ref_inj h2]
/-- a new list put behind the rows -/
theorem FRows.push {p : Addr} {r : List V} {ps : List Addr} (h1 : H D = some (.lst (ps.map V.ref))) (f : FRows H0 H D rows) (hp : H p = some (.lst r)) (h0 : H0 p = none) (hn : p ∉ ps) (hD : p ≠ D) : FRows H0 (upd H D (.lst (ps.map V.ref ++ [.ref p]))) D (rows ++ [r]) := by
  obtain ⟨ps', g1, h2, h3, h4, h5, h6, h7⟩ := f
  have e : ps' = ps := by
    rw [g1] at h1
    have h1 : ps'.map V.ref = ps.map V.ref := by
      have := Option.some.inj h1
      injection this
    exact map_ref_inj h1
  subst e
  refine ⟨ps' ++ [p], by rw [upd_same, List.map_append]; rfl, by rw [List.length_append, List.length_append, h2]; rfl, List.nodup_append.mpr ⟨h3, List.nodup_cons.mpr ⟨List.not_mem_nil, List.nodup_nil⟩, fun a ha b hb e => hn (by rw [List.mem_singleton.mp hb] at e; rw [← e]; exact ha)⟩,
    fun q hq => ?_, h5, fun hm => ?_, fun i q x hq hx => ?_⟩
  · rcases List.mem_append.mp hq with h | h
    · exact h4 q h
    · rw [List.mem_singleton.mp h]; exact h0
  · rcases List.mem_append.mp hm with h | h
    · exact h6 h
    · exact hD (List.mem_singleton.mp h).symm
  · have hq1 := (List.getElem?_eq_some_iff.mp hq).1
    rw [List.length_append] at hq1
    by_cases hlt : i < ps'.length
    · rw [List.getElem?_append_left hlt] at hq
      rw [List.getElem?_append_left (by omega)] at hx
      have hqD : q ≠ D := fun e => h6 (by rw [← e]; exact List.mem_of_getElem? hq)
      rw [upd_ne hqD]
      exact h7 i q x hq hx
    · have ei : i = ps'.length := by
        have : i < ps'.length + 1 := hq1
        omega
      subst ei
      rw [List.getElem?_append_right (Nat.le_refl _), Nat.sub_self] at hq
      rw [h2, List.getElem?_append_right (Nat.le_refl _), Nat.sub_self] at hx
      cases hq
      cases hx
      rw [upd_ne hD]
      exact hp
end
theorem line_of1 {n : Nat} (h : n ≤ 1000000) : n < sizeLine := by rw [sizeLine_eq]; omega
theorem w_tupAny {K : PySem.W.Frag} {H : Hp} {Q : VK} {b : Bool} {a : Addr} {ys : List V} (h : Sq b K H a ys) (q : ∀ p H', Same H H' → Sq false K H' p ys → Q (.ref p) H') : rTupS K [.ref a] H Q := by
  cases b with
  | true => exact w_tupL h fun p hp => q _ _ (Same.new hp) (Sq.tup upd_same)
  | false => exact w_tupT h (q _ _ (Same.refl _) h)
theorem w_catA {K : PySem.W.Frag} {H : Hp} {Q : VK} {a b : Addr} {xs ys : List V} (h1 : Sq false K H a xs) (h2 : Sq false K H b ys) (hz : xs.length + ys.length ≤ 1000000) (q : ∀ p H', Same H H' → Sq false K H' p (xs ++ ys) → Q (.ref p) H') : rCatA K (.ref a) (.ref b) H Q :=
  ⟨a, b, xs, ys, rfl, rfl, h1, h2, by rw [sizeLine_eq]; omega, fun e => q _ _ (Same.refl _) (by rw [e]; exact h2), fun _ e => q _ _ (Same.refl _) (by rw [e, List.append_nil]; exact h1), fun _ _ p hp => q _ _ (Same.new hp) (Sq.tup upd_same)⟩
theorem Fr.sqI {b : Bool} {K : PySem.W.Frag} {H H' : Hp} {t a : Addr} {xs : List V} (f : Fr t H H') (ht : ∃ C dx fs, H t = some (.ins C dx fs)) (h : Sq b K H a xs) : Sq b K H' a xs := by
  obtain ⟨C, dx, fs, ht⟩ := ht
  cases b with
  | true =>
    have h : SqL K H a xs := h
    rcases h with (h | ⟨o, h⟩) | h
    · exact .inl (.inl (f _ _ (fun e => by rw [e, ht] at h; cases h) h))
    · exact .inl (.inr ⟨o, f _ _ (fun e => by rw [e, ht] at h; cases h) h⟩)
    · exact .inr h
  | false =>
    have h : SqT K H a xs := h
    rcases h with (h | ⟨o, h⟩) | h
    · exact .inl (.inl (f _ _ (fun e => by rw [e, ht] at h; cases h) h))
    · exact .inl (.inr ⟨o, f _ _ (fun e => by rw [e, ht] at h; cases h) h⟩)
    · exact .inr h
/-- lists or tuples of lists or tuples of any values -/
def RRows (b1 b2 : Bool) (K : PySem.W.Frag) : Rep (List (List V)) := RSeq b1 K (RRw b2 K)
theorem RRows.mono {b1 b2 : Bool} {K : PySem.W.Frag} : RMono (RRows b1 b2 K) := RSeq.mono RRw.mono
theorem RRows.fr {b1 b2 : Bool} {K : PySem.W.Frag} {H H' : Hp} {t : Addr} {v : V} {rows : List (List V)} (f : Fr t H H') (ht : ∃ C dx fs, H t = some (.ins C dx fs)) (h : RRows b1 b2 K H v rows) : RRows b1 b2 K H' v rows := by
  obtain ⟨a, vs, e, h1, h2, h3⟩ := h
  exact ⟨a, vs, e, f.sqI ht h1, h2, fun i y x hy hx => by
    obtain ⟨p, e, hp⟩ := h3 i y x hy hx
    exact ⟨p, e, f.sqI ht hp⟩⟩
theorem RRows.get {b1 b2 : Bool} {K : PySem.W.Frag} {H : Hp} {v : V} {rows : List (List V)} {i : Nat} {r : List V} (h : RRows b1 b2 K H v rows) (hi : rows[i]? = some r) : ∃ a vs p, v = .ref a ∧ Sq b1 K H a vs ∧ vs.length = rows.length ∧ vs[i]? = some (.ref p) ∧ Sq b2 K H p r := by
  obtain ⟨a, vs, e, h1, h2, h3⟩ := h
  obtain ⟨y, hy, p, ep, hp⟩ := RSeq.get (R := RRw b2 K) h2 h3 hi
  subst ep
  exact ⟨a, vs, p, e, h1, h2, hy, hp⟩
theorem none_back {H H' : Hp} {p : Addr} (s : Same H H') (h : H' p = none) : H p = none := by
  cases e : H p with
  | none => rfl
  | some u => rw [s _ _ e] at h; cases h
section
variable {K : PySem.W.Frag} {σ : St} {H : Hp} {te : TE} {vs : List Nat} {Q : VK}
theorem FRows.nil {D : Addr} (hD : H D = none) : FRows H (upd H D (.lst [])) D [] := ⟨[], upd_same, rfl, List.nodup_nil, List.forall_mem_nil _, hD, List.not_mem_nil, fun i p r h => by simp at h⟩
theorem FRows.next {H0 H1 H2 : Hp} {D p : Addr} {rows : List (List V)} {r : List V} {acc : List V} (f : FRows H0 H1 D rows) (s0 : Same H0 H1) (e : H1 D = some (.lst acc)) (hp : H1 p = none) (s : Same H1 H2) (ep : H2 p = some (.lst r)) :
    H2 D = some (.lst acc) ∧ FRows H0 (upd H2 D (.lst (acc ++ [.ref p]))) D (rows ++ [r]) := by
  obtain ⟨ps, h1, h2, h3, h4, h5, h6, h7⟩ := id f
  have ea : acc = ps.map V.ref := by
    rw [h1] at e
    have e := Option.some.inj e
    injection e with e
    exact e.symm
  subst ea
  refine ⟨s _ _ e, (f.mono s).push (s _ _ h1) ep (none_back s0 hp) (fun hm => ?_) (fun e2 => by rw [e2, e] at hp; cases hp)⟩
  obtain ⟨q, hq1, hq2⟩ := List.mem_iff_getElem.mp hm
  have a1 : ps[q]? = some p := by rw [List.getElem?_eq_getElem hq1, hq2]
  have a3 := h7 q p _ a1 (List.getElem?_eq_getElem (by omega))
  rw [a3] at hp; cases hp
/-- a comprehension that gives new lists -/
theorem c_fresh {b : Bool} {a : Addr} {j : Nat} (rows : List (List V)) (xs : List V) (hx : Sq b K H a xs) (hl : rows.length = xs.length) (hz : xs.length < sizeLine) (hw : ∀ x : V, wipe ((wipe σ vs).set j (some x)) vs = wipe σ vs)
    (hs : ∀ (i : Nat) x r H1 (N : VK), i < xs.length → xs[i]? = some x → rows[i]? = some r → Same H H1 → (∀ p H2, H1 p = none → Same H1 H2 → H2 p = some (.lst r) → N (.ref p) H2) → te ((wipe σ vs).set j (some x)) H1 N)
    (k : ∀ D H', Same H H' → FRows H H' D rows → Q (.ref D) H') :
    ∃ a', V.ref a = .ref a' ∧ ((∃ xs, SqL K H a' xs) ∧ CompOk (Itl K a') (gName j) tYes te vs σ H Q ∨ (∃ xs, SqT K H a' xs) ∧ CompOk (Itt K a') (gName j) tYes te vs σ H Q) := by
  refine l_compGS (b := b) xs hz (fun D i acc H' => Same H H' ∧ FRows H H' D (rows.take i)) hx hw (fun D hD => ⟨Same.new hD, FRows.nil hD⟩) (fun D i acc H' st => st.1.sq hx) (fun i x H1 D acc NT NF hi hxi hD st e1 hal hT hF => ?_) (fun D H' ys hD st e hly => ?_)
  · obtain ⟨s1, f1⟩ := st
    have hri : rows[i]? = some (rows[i]'(by omega)) := List.getElem?_eq_getElem (by omega)
    show te _ H1 NT
    refine hs i x _ H1 NT hi hxi hri s1 fun p H2 hp s2 ep => ?_
    obtain ⟨e2, f2⟩ := f1.next s1 e1 hp s2 ep
    refine hT _ H2 e2 ⟨Same.mut (s1.trans s2) hD, ?_⟩
    rw [List.take_add_one, hri]
    exact f2
  · rw [← hl, List.take_length] at st
    exact k D H' st.1 st.2
end
theorem w_setV {H : Hp} {p : Addr} {xs : List V} {k : Int} {v : V} {N : Hp → Prop} (h : H p = some (.lst xs)) (h0 : 0 ≤ k) (h1 : k < xs.length) (q : N (upd H p (.lst (xs.set k.toNat v)))) : rSetL (.ref p) (.int k) v H N := by
  refine ⟨p, xs, k, k.toNat, rfl, rfl, h, ?_, q⟩
  unfold ixN
  rw [if_pos h0, if_pos h1]
theorem RRows.updL {K : PySem.W.Frag} {H : Hp} {q : Addr} {xs : List V} {o : HO} {v : V} {rows : List (List V)} (hq : H q = some (.lst xs)) (h : RRows false false K H v rows) : RRows false false K (upd H q o) v rows :=
  RTup.upd (RSeq.tup RRw.tup) RRows.mono (NTup.lst hq) h
/-- all keyword-only parameters written -/
theorem kbind_of {K : PySem.W.Frag} {x qual : Str} {st : Stmt} {f : Addr} {fd : FuncData} {ps ks : List Str} {n : Nat} (F : Fun K x qual st f fd)
    (h : ∀ (kV doc pm : Value) (an : Option Addr) (cdv ct : Value) (us ws : List Value), us.length = n → ws.length = ks.length → bindArgs (PySem.W.fnOf x qual (defArgs st) (defBody st) (defScope st) .none kV doc pm an cdv ct) ⟨us, ks.zip ws⟩ = pure (ps.zip (us ++ ws))) :
    KBn K fd ps n ks (fun us ws => us ++ ws) (fun vs zs => vs ++ zs) := by
  obtain ⟨oc, od, kV, doc, pm, an, cdv, ct, osl, rfl, lk, hcd⟩ := F.ex
  exact ⟨fun s us ws X l1 l2 => .of_eq (h kV doc pm an cdv ct us ws l1 l2), fun r1 r2 => r1.append r2⟩
/-- one keyword-only parameter that lacks: its default is read off -/
theorem kbind_dflt {K : PySem.W.Frag} {x qual m : Str} {st : Stmt} {f D : Addr} {oc doc pm cdv ct u : Value} {od an : Option Addr} {osl : Array (Option Value)} {ps : List Str} (n : Nat) (hn : n + 1 = ps.length)
    (l : K.lookup f = some ⟨oc, od, .func (PySem.W.fnOf x qual (defArgs st) (defBody st) (defScope st) .none (.ref D) doc pm an cdv ct), osl⟩) (hd : PySem.W.nsIn K D m = some (some u))
    (h : ∀ (us : List Value), us.length = n → KwChain D [(m, u)] (bindArgs (PySem.W.fnOf x qual (defArgs st) (defBody st) (defScope st) .none (.ref D) doc pm an cdv ct) ⟨us, []⟩) (ps.zip (us ++ [u]))) :
    Binds K (PySem.W.fnOf x qual (defArgs st) (defBody st) (defScope st) .none (.ref D) doc pm an cdv ct) ps [u] := fun s us X hlen => by
  have l2 : us.length = n := by
    rw [List.length_append] at hlen
    have : us.length + 1 = ps.length := hlen
    omega
  exact BindsTo.of_looks fun M => KwChain.looks X (fun q hq => by
    rw [List.mem_singleton.mp hq]
    exact hd) (h us l2)
section
variable {K : PySem.W.Frag} {σ : St} {H : Hp} {te : TE} {vs : List Nat} {Q : VK}
/-- a comprehension over enumerate that gives numbers -/
theorem c_intsE {b : Bool} {a : Addr} {i1 i2 : Nat} (xs : List V) (hx : Sq b K H a xs) (ms : List Int) (hl : ms.length = xs.length) (hz : xs.length < sizeLine) (hw : ∀ x y : V, wipe (((wipe σ vs).set i1 (some x)).set i2 (some y)) vs = wipe σ vs)
    (hs : ∀ (i : Nat) x H1 (N : VK), i < xs.length → xs[i]? = some x → Same H H1 → (∀ H4, Same H1 H4 → N (.int (nth ms (i : Nat))) H4) → te (((wipe σ vs).set i1 (some (.int (i : Int)))).set i2 (some x)) H1 N)
    (k : ∀ D H', H D = none → Same H H' → H' D = some (.lst (ms.map V.int)) → Q (.ref D) H') :
    ∃ a', [V.ref a] = [.ref a'] ∧ ((∃ xs, SqL K H a' xs) ∧ CompOk (Ite K a') (gTup K 2 (gCons (gName i1) (gCons (gName i2) gNil))) tYes te vs σ H Q ∨ (∃ xs, SqT K H a' xs) ∧ CompOk (IteT K a') (gTup K 2 (gCons (gName i1) (gCons (gName i2) gNil))) tYes te vs σ H Q) := by
  have body : ∀ (i : Nat) (v : V) H1 (T D : Addr) acc (NT : VK), i < xs.length → xs[i]? = some v → H D = none → (Same H H1 ∧ acc.length = i ∧ ∀ (j : Nat) y, acc[j]? = some y → y = .int (nth ms (j : Nat))) → H1 D = some (.lst acc) → H1 T = none →
      (∀ y H5, H5 D = some (.lst acc) → (Same H (upd H5 D (.lst (acc ++ [y]))) ∧ (acc ++ [y]).length = i + 1 ∧ ∀ (j : Nat) z, (acc ++ [y])[j]? = some z → z = .int (nth ms (j : Nat))) → NT y H5) →
      te (((wipe σ vs).set i1 (some (.int (i : Int)))).set i2 (some v)) (upd H1 T (.tup [.int (i : Int), v])) NT := fun i v H1 T D acc NT hi hv hD st e1 hT hN => by
    obtain ⟨s1, hal, hac⟩ := st
    have sT := s1.trans (Same.new (o := .tup [.int (i : Int), v]) hT)
    refine hs i v _ NT hi hv sT fun H4 s4 => hN _ H4 (s4 _ _ (Same.new hT _ _ e1)) ⟨Same.mut (sT.trans s4) hD, by rw [List.length_append, hal]; rfl, fun j z hj => ?_⟩
    by_cases hlt : j < acc.length
    · rw [List.getElem?_append_left hlt] at hj
      exact hac j z hj
    · have h1 := (List.getElem?_eq_some_iff.mp hj).1
      rw [List.length_append] at h1
      have ej : j = acc.length := by
        have : j < acc.length + 1 := h1
        omega
      subst ej
      rw [List.getElem?_append_right (Nat.le_refl _), Nat.sub_self] at hj
      cases hj
      rw [hal]
  refine ⟨a, rfl, ?_⟩
  cases b with
  | true =>
    refine .inl ⟨⟨xs, hx⟩, l_compG (walk_enum (xs := xs)) hz (fun D i acc H' => Same H H' ∧ acc.length = i ∧ ∀ (j : Nat) y, acc[j]? = some y → y = .int (nth ms (j : Nat))) (fun D hD => ⟨Same.new hD, rfl, fun j y e => by simp at e⟩) (fun D i acc H' st => st.1.sq hx) (fun i x H1 H2 D acc NT NF hi hD st e1 hal hy hT hF => ?_) (fun D H' ys hD st e hly => ?_)⟩
    · obtain ⟨T, u, v, rfl, hTn, e, hu, hv⟩ := hy
      cases hu
      subst e
      refine w_pair (Sq.tup upd_same) ⟨hw _ _, ?_⟩
      show te _ _ NT
      exact body i v H1 T D acc NT hi hv hD st e1 hTn hT
    · exact k D H' hD st.1 (by rw [e, vec_of (by omega) st.2.2])
  | false =>
    refine .inr ⟨⟨xs, hx⟩, l_compG (walk_enumT (xs := xs)) hz (fun D i acc H' => Same H H' ∧ acc.length = i ∧ ∀ (j : Nat) y, acc[j]? = some y → y = .int (nth ms (j : Nat))) (fun D hD => ⟨Same.new hD, rfl, fun j y e => by simp at e⟩) (fun D i acc H' st => st.1.sq hx) (fun i x H1 H2 D acc NT NF hi hD st e1 hal hy hT hF => ?_) (fun D H' ys hD st e hly => ?_)⟩
    · obtain ⟨T, u, v, rfl, hTn, e, hu, hv⟩ := hy
      cases hu
      subst e
      refine w_pair (Sq.tup upd_same) ⟨hw _ _, ?_⟩
      show te _ _ NT
      exact body i v H1 T D acc NT hi hv hD st e1 hTn hT
    · exact k D H' hD st.1 (by rw [e, vec_of (by omega) st.2.2])
end
end L2

namespace PySem.W
open PySem PySem.Spec PySem.Calls PyProof.Rows
/-! ### isinstance of a caught error that has a dict of its own -/
section
variable {prog : Program} {w : World} {A : Around} {E : Value → Shared → Prop} {s : Shared} {K : Frag} {x D : Addr} {ox od : Obj}
theorem kin_classX {Q : Option Value → Shared → Prop} (hga : findIn K (.ref D) "__getattribute__" = some (some (.builtin "BaseException.__getattribute__"))) (hgt : findIn K (.ref D) "__getattr__" = some none) (hsub : subIn K (.ref D) (.type "BaseException") = some true)
    (hdct : hasDictIn K D = true) (ha : findIn K (.ref D) "__class__" = some (some (.builtin "object.__class__")))
    (hn : specialIn K (.builtin "object.__class__") "__get__" = some (some (.builtin "getset_descriptor.__get__"))) (htk : takesIn K (.builtin "object.__class__") = some true) (hm : mroIn K D (.type "object") = some true)
    (X : K.In s.heap) (I : InstAt s.heap x ox D (some od)) (h : Q (some (.ref D)) { s with toks := s.toks + 1 }) : wpAny (model prog w) A (getAttr? (.ref x) "__class__") Q E s := by
  have hf : findObj K D (some od) "__class__" = some (.bind (.builtin "getset_descriptor.__get__") (.builtin "object.__class__")) := findObj_data (by obtain ⟨cd, hc, _⟩ := any_some hdct; rw [hc]; rfl) ha hn htk
  obtain ⟨hp, g, d, t, os⟩ := s
  have L0 := I.type (M := model prog w)
  have L1 := looks_findIn (M := model prog w) X hga
  have L2 := looks_findIn (M := model prog w) X hgt
  have L3 := looks_find (M := model prog w) X I hf
  have sub : Looks (model prog w) hp (isInstance (.ref x) (.type "BaseException")) true := L0.andThen (looks_subIn X hsub)
  have hx0 : (false && onTheHeap (Value.builtin "BaseException.__getattribute__")) = false := rfl
  have hx2 : (Value.builtin "BaseException.__getattribute__" == Value.builtin "object.__getattribute__") = false := by decide +kernel
  have hx1 : (onTheHeap (Value.ref D) && Value.builtin "BaseException.__getattribute__" == Value.builtin "object.__getattribute__") = false := by rw [hx2]; rfl
  unfold getAttr? getAttrBy? getAttrBy
  refine wpAny_bind (wpAny_mkText (wpAny_bind (wpAny_attempt (wpAny_holding (wpAny_bind (L0.at (wpAny_bind (L1.at ?_))))))))
  show wpAny _ _ (if (onTheHeap (Value.ref D) && Value.builtin "BaseException.__getattribute__" == Value.builtin "object.__getattribute__") = true then _ else _) _ _ _
  rw [hx1, if_neg Bool.false_ne_true]
  unfold getAttrByItsOwn hookBefore
  refine wpAny_bind ?_
  rw [if_pos (show onTheHeap (Value.ref D) = true from rfl)]
  refine L2.at ?_
  refine wpAny_bind (wpAny_attempt (wpAny_holding ?_))
  unfold callGetattribute
  rw [hx0, if_neg Bool.false_ne_true]
  unfold boundAndCalled
  rw [PySem.F.excAttr_ValueError.ga.bind (.ref x)]
  refine wpAny_bind (wpAny_pure ?_)
  show wpAny _ _ (call (.builtin "BaseException.__getattribute__") [.ref x, .str "__class__" t]) _ _ _
  refine wpAny_call (codeAny_call_builtin PySem.F.excAttr_ValueError.ga.plain PySem.F.entry_bexc_ga ?_)
  refine @check_slot (model prog w) _ _ ⟨hp, g, d, t + 1, os⟩ "BaseException.__getattribute__" "BaseException" "__getattribute__" (.ref x) [.str "__class__" t] [] _ (by decide +kernel) (by decide +kernel) sub (PySem.F.args_bexc_ga (.ref x) (.str "__class__" t)) ?_
  unfold Builtin.«object.__getattribute__»
  refine wpAny_bind (wpAny_of_eq (a := ((Value.ref x : Value), [Value.str "__class__" t])) (by first | rfl | (simp only [slotArgs]; rfl)) ?_)
  refine wpAny_bind (wpAny_pure (wpAny_bind (L0.at (wpAny_bind (L3.at ?_)))))
  show wpAny _ _ (holding [Value.builtin "object.__class__"] (call (.builtin "getset_descriptor.__get__") [.builtin "object.__class__", .ref x, .ref D]) >>= ret) _ _ _
  refine wpAny_bind (wpAny_holding (wpAny_call (class_get (s := ⟨hp, g, d, t + 1, os⟩) (ox := ox) (od := some od) X I hm ?_)))
  refine wpAny_pure ?_
  show wpAny _ _ (handedOut (.ref D)) _ _ _
  rw [handedOut_of (v := .ref D) rfl]
  first
    | exact wpAny_pure (wpAny_pure h)
    | exact wpAny_pure h
    | exact wpAny_pure (wpAny_bind (wpAny_pure (wpAny_pure h)))
theorem kitx_excX (hga : findIn K (.ref D) "__getattribute__" = some (some (.builtin "BaseException.__getattribute__"))) (hgt : findIn K (.ref D) "__getattr__" = some none) (hsub : subIn K (.ref D) (.type "BaseException") = some true) (hdct : hasDictIn K D = true) (ha : findIn K (.ref D) "__class__" = some (some (.builtin "object.__class__")))
    (hn : specialIn K (.builtin "object.__class__") "__get__" = some (some (.builtin "getset_descriptor.__get__"))) (htk : takesIn K (.builtin "object.__class__") = some true) (hm : mroIn K D (.type "object") = some true) :
    KitX K (.ref x) (.ref D) (fun h => InstAt h x ox D (some od)) where
  ty := fun _ _ _ I => I.type
  it := fun _ _ X _ => by
    obtain ⟨cdD, hcD, _⟩ := any_some hdct
    unfold clsIn at hcD
    split at hcD
    · rename_i c' d' cd' sl' ho
      intro A' Q' E' s' k q
      unfold isType loadHead
      exact wpAny_bind (wpAny_loadPart (k _ _ (X _ _ ho)) (wpAny_pure q))
    · cases hcD
  ne := (handS_kitx_exc (x := x) (ox := ox) hga hgt hsub hdct ha hn htk hm).ne
  ca := fun X I k => kin_classX hga hgt hsub hdct ha hn htk hm X I k
end
end PySem.W
namespace L2
open PySem PySem.Spec PyProof.Rows
/-- isinstance(e, c) or isinstance(e, (c1, ..)), e the error that the suite holds, its class cls, its dict d -/
def rIsX (K : PySem.W.Frag) (a : Addr) (cls : Value) (d : Option Addr) : List V → Hp → VK → Prop := fun xs H Q => ∃ (c : V) (C dd : Addr) (fs : List (Str × V)) (b : Bool), xs = [.ref a, c] ∧ cls = .ref C ∧ d = some dd ∧ H dd = some (.xd fs) ∧ ExcC K C ∧
  ((∃ cv, ClsV c cv ∧ PySem.W.kitOne K (.ref C) cv = some b) ∨ ∃ (tp : Addr) (cs : List V) (us : List Value), c = .ref tp ∧ H tp = some (.tup cs) ∧ Paired ClsV cs us ∧ PySem.W.kitAny K (.ref C) us = some b) ∧ Q (.bl b) H
theorem call_isX {X : Cx} {a : Addr} {oe : Obj} {cls : Value} {d : Option Addr} (hp : (a, oe) ∈ X.pn) (hz : Zc cls d oe) (hf : ∃ vs, oe.data = .fields vs) : CallR X (.builtin "isinstance") (rIsX X.K a cls d) := by
  intro pins s σ H xs us Q I r h
  obtain ⟨c, D, dd, fs, b, rfl, rfl, rfl, hdd, C, hc, q⟩ := h
  obtain ⟨u1, u2, rfl, r1, r2⟩ := vals2 r
  cases (show u1 = Value.ref a from r1)
  obtain ⟨hget, _⟩ := I.pin (a, oe) (List.mem_append_left _ hp)
  obtain ⟨vs, hv⟩ := hf
  have hx : ObjOk X.prog X.w H s.heap dd (.xd fs) := I.hok dd _ hdd
  obtain ⟨mA, hns, _⟩ := hx
  obtain ⟨od, ho, _⟩ := lookIn_ns hns
  have J : PySem.W.InstAt s.heap a oe D (some od) := ⟨hget, hz.1, by unfold PySem.W.notCls; rw [hv] <;> rfl, by rw [hz.2]; exact ho⟩
  have Z := PySem.W.kitx_excX (x := a) (ox := oe) (od := od) C.hg C.hk C.hs C.hd C.ha C.hn C.ht C.hm
  rcases hc with ⟨cv, kc, e⟩ | ⟨tp, cs, ws, rfl, hT, k, e⟩
  · have e2 := kc.eq r2
    subst e2
    exact PySem.W.kia_one Z I.kIn J e (fun z => nomatch z) fun tk => ⟨.bl b, H, I.kept (t' := tk) fun _ _ z => z, rfl, q⟩
  · cases (show u2 = Value.ref tp from r2)
    obtain ⟨_, its, rv, o, h1, h2, n, h3⟩ := (show ObjOk X.prog X.w H s.heap tp (.tup cs) from I.hok tp _ hT)
    have e3 := ClsV.all k rv
    subst e3
    obtain ⟨oc, od', dt, sl⟩ := o
    simp only at h2 h3
    subst h2 h3
    exact PySem.W.kia_tup Z I.kIn J h1 e (fun z => nomatch z) fun tk => ⟨.bl b, H, I.kept (t' := tk) fun _ _ z => z, rfl, q⟩
/-! ### calls within a try: what may be let out, at the slots as they stand -/
section
variable {X : Cx} {CX : CXT} {k : Nat} {f C : Addr} {fd : FuncData} {ps : List Str} {sp : Sp} {dvs : List V} {ds : List Value} {E : St → XK} {x m : Str} {p pos apos : Pos} {e o : Expr} {es : List Expr} {ta : TE} {t : TA}
theorem run_fnT {pins : List (Addr × Obj)} {σ : St} {H : Hp} {s : Shared} {Q : VK} {us : List Value} {vs : List V} (F : FnOk X.prog X.w X.K X.mg X.base CX k f fd ps sp) (hr : Room k X.A) (hb : Binds X.K fd ps ds) (hd : Vals dvs ds) (hx : PassesAt CX X σ (E σ))
    (I : Inv X pins σ H s) (r : Vals vs us) (h : sp (vs ++ dvs) H Q (E σ)) : wpAny (model X.prog X.w) X.A (call (.ref f) us) (EP X pins σ Q) X.xe s := by
  have r2 : Vals (vs ++ dvs) (us ++ ds) := r.append hd
  have hl : (us ++ ds).length = ps.length := by rw [← r2.length]; exact F.len _ _ _ _ h
  refine wpAny_call (codeAny_mono (F.run X.A X.stack s H ⟨us, []⟩ (us ++ ds) (vs ++ dvs) Q (E σ) hr I.env0 (hb s us I.kIn hl) r2 h) fun r s' hq => ?_)
  cases r with
  | error e => exact hx pins H s e s' I hq
  | ok fl =>
    cases fl with
    | ret u => exact I.after hq
    | next => exact False.elim hq
    | brk => exact False.elim hq
    | cont => exact False.elim hq
def tMethT (C : Addr) (m : Str) (sp : Sp) (dvs : List V) (E : St → XK) (ta : TE) (t : TA) : TE := fun σ H Q => ta σ H fun x H1 => ∃ a dx fs, x = .ref a ∧ H1 a = some (.ins C dx fs) ∧ fs.lookup m = none ∧ t σ H1 fun vs H2 => sp (x :: (vs ++ dvs)) H2 Q (E σ)
theorem pe_methT {pl : Sem Bool} (he : PE X o ta) (c : Cls X.K C) (hm : Meth X.K C m f) (F : FnOk X.prog X.w X.K X.mg X.base CX k f fd ps sp) (hr : Room k X.A) (hb : Binds X.K fd ps ds) (hd : Vals dvs ds) (hx : ∀ σ, PassesAt CX X σ (E σ)) (ha : PA X (e :: es) t)
    (hst : starEach (e :: es) X.env = (false, eval e X.env) :: starEach es X.env := by rfl) (hpl : (backTo pos (starEach es X.env)).any (·.1) = false := by rfl)
    (ht : eval (.Call (.Attribute o m apos) (e :: es) [] pos) X.env = (do
      let ov ← eval o X.env
      standAt apos.atName
      let (f, first) ← holding [ov] (getMethod ov m pl)
      callWith pos f first (backTo pos (starEach (e :: es) X.env)) (backToKw pos (keywordEach [] X.env))) := by rfl) :
    PE X (.Call (.Attribute o m apos) (e :: es) [] pos) (tMethT C m sp dvs E ta t) := by
  refine ⟨fun pins s σ H Q I h => ?_⟩
  refine PySem.W.methodCall_KW (pl := pl) (thn (he.run pins s σ H _ I h) fun u s1 ⟨x, H1, I1, rx, a, dx, fs, ex, ea, l, q⟩ => ?_) ht
  subst ex
  obtain rfl : u = Value.ref a := rx
  refine getmeth_ok I1 ea c hm l ?_
  refine PySem.W.callWith_K (first := [.ref a]) (h₀ := X.base) I.ok.mod.kin hm.kp (thn (ha.run pos pins s1 σ H1 _ I1 q) fun us s2 ⟨vs, H2, I2, r, q2⟩ => ⟨I2.kIn, ?_⟩) hst hpl
  exact run_fnT (us := .ref a :: us) (vs := .ref a :: vs) F hr hb hd (hx σ) I2 (.cons rfl r) q2
def tMakeT (C : Addr) (sp : Sp) (dvs : List V) (E : St → XK) (t : TA) : TE := fun σ H Q => t σ H fun vs H1 => ∀ x dx, H1 x = none → H1 dx = none → dx ≠ x → sp (.ref x :: (vs ++ dvs)) (upd (upd H1 dx (.own x)) x (.ins C dx [])) (fun v H2 => v = .non ∧ Q (.ref x) H2) (E σ)
theorem pe_makeT (M : Mk X.K C f) (F : FnOk X.prog X.w X.K X.mg X.base CX k f fd ps sp) (hr : Room (k + 1) X.A) (hg : Gl X x) (hm : X.mg x = some (.ref C)) (hb : Binds X.K fd ps ds) (hd : Vals dvs ds) (hx : ∀ σ, PassesAt CX X σ (E σ))
    (ha : PA X (e :: es) t) (hdb : (x == ("__debug__" : Str)) = false := by decide) (he : starEach (e :: es) X.env = (false, eval e X.env) :: starEach es X.env := by rfl) (hpl : (backTo pos (starEach es X.env)).any (·.1) = false := by rfl) :
    PE X (.Call (.Name x p) (e :: es) [] pos) (tMakeT C sp dvs E t) := by
  refine ⟨fun pins s σ H Q I h => ?_⟩
  refine wpAny_Call_Name_kw (ld_glob I hg hm ?_ hdb)
  refine PySem.W.callWith_K (h₀ := X.base) I.ok.mod.kin M.kp (thn (ha.run pos pins s σ H _ I h) fun us s1 ⟨vs, H1, I1, r, h⟩ => ⟨I1.kIn, ?_⟩) he hpl
  have hq := h (s1.heap.objs.size + 1) s1.heap.objs.size (I1.hok.fresh (Nat.le_succ _)) (I1.hok.fresh (Nat.le_refl _)) (Nat.ne_of_lt (Nat.lt_succ_self _))
  have I2 := Inv.made (C := C) I1
  have r2 : Vals (V.ref (s1.heap.objs.size + 1) :: (vs ++ dvs)) (Value.ref (s1.heap.objs.size + 1) :: (us ++ ds)) := .cons rfl (r.append hd)
  have hl : (Value.ref (s1.heap.objs.size + 1) :: us ++ ds).length = ps.length := by
    have e := r2.length
    rw [F.len _ _ _ _ hq] at e
    exact e.symm
  refine wpAny_call (make_map (f := f) I1.kIn M.makes M.init (beq_iff_eq.mp M.fn) (codeAny_mono (F.run _ X.stack _ _ ⟨Value.ref (s1.heap.objs.size + 1) :: us, []⟩ (Value.ref (s1.heap.objs.size + 1) :: (us ++ ds)) _ _ (E σ) (hr.make C us [])
    (I2.env0.make C us []) (hb _ (Value.ref (s1.heap.objs.size + 1) :: us) I2.kIn hl) r2 hq) fun r s' hq' => ?_))
  cases r with
  | error e => exact hx σ pins _ _ e s' I2 hq'
  | ok fl =>
    cases fl with
    | ret u =>
      obtain ⟨v, H', I3, rv, ev, q3⟩ := I2.after hq'
      subst ev
      exact ⟨rv, ⟨V.ref (s1.heap.objs.size + 1), H', I3, rfl, q3⟩⟩
    | next => exact False.elim hq'
    | brk => exact False.elim hq'
    | cont => exact False.elim hq'
end
/-! ### an own error of one field -/
/-- X(v): self.f = v; what __init__ promises -/
def spErr (K : PySem.W.Frag) (f : Str) : Sp := fun vs H Q _ => ∃ (a C : Addr) (v : V), vs = [.ref a, v] ∧ H a = some (exo a C none) ∧ OexC K C ∧ PySem.W.findIn K (.ref C) f = some none ∧ ∀ dx, H dx = none → dx ≠ a → Q .non (upd (upd H dx (exd dx [(f, v)])) a (exo a C (some dx)))
theorem upd_del (H : Hp) (a d : Addr) (o1 o2 o3 o4 : HO) (ha : H a = none) (hd : d ≠ a) : upd (del (upd (upd (upd H a o1) d o2) a o3) a) d o4 = upd H d o4 := by
  funext b
  by_cases h : b = d
  · subst h
    rw [upd_same, upd_same]
  · rw [upd_ne h, upd_ne h]
    by_cases h2 : b = a
    · subst h2
      rw [del_same, ha]
    · rw [del_ne h2, upd_ne h2, upd_ne h, upd_ne h2]
theorem w_mkErr {K : PySem.W.Frag} {C : Addr} {f : Str} {ta : TA} {σ : St} {H : Hp} {Q : XK} (o : OexC K C) (n : PySem.W.findIn K (.ref C) f = some none) (q : ta σ H fun vs H1 => ∃ v, vs = [v] ∧ ∀ d, H1 d = none → Q (.ref C) (some d) (upd H1 d (.xd [(f, v)]))) (hm : ∀ {QA QB : List V → Hp → Prop}, (∀ vs H1, QA vs H1 → QB vs H1) → ta σ H QA → ta σ H QB) : tMkO C (spErr K f) [] ta σ H Q := by
  refine hm (fun vs H1 ⟨v, ev, hq⟩ => ?_) q
  subst ev
  refine ⟨by show 1 ≤ 1000; omega, fun a ha => ⟨a, C, v, rfl, upd_same, o, n, fun dx hdx hne => ?_⟩⟩
  rw [upd_ne hne] at hdx
  refine ⟨rfl, dx, [(f, v)], upd_same, (upd_ne hne).trans upd_same, hdx, ?_⟩
  rw [upd_del H1 a dx _ _ _ _ ha hne]
  exact hq dx hdx
end L2

namespace L2
open PySem PySem.Spec PyProof.Rows
/-! ### own errors: what is asked of their classes; readings -/
structure ErrN (K : PySem.W.Frag) (C : Addr) : Prop where
  isc : PySem.W.isClsIn K C = true
  typ : PySem.W.typeIn K (.ref C) = some (.type "type")
  exB : PySem.W.subIn K (.ref C) (.type "BaseException") = some true
  hd : PySem.W.hasDictIn K C = true
section
variable {K : PySem.W.Frag} {C D : Addr} {H : Hp} {Q : VK} {b : Bool} {a dd : Addr} {fs : List (Str × V)} {σ : St}
theorem kit_sub (e : ErrN K D) (self : PySem.W.subIn K (.ref C) (.ref C) = some true) (h : PySem.W.subIn K (.ref C) (.ref D) = some b) : PySem.W.kitOne K (.ref C) (.ref D) = some b := by
  unfold PySem.W.kitOne
  by_cases q : C = D
  · subst q
    rw [self] at h
    cases h
    exact if_pos (beq_self_eq_true _)
  · rw [if_neg (by intro z; exact q (Value.ref.inj (beq_iff_eq.mp z)))]
    have h1' : (PySem.W.clsIn K D).isSome = true := e.isc
    show (if ((PySem.W.clsIn K D).isSome && PySem.W.typeIn K (.ref D) == some (.type "type")) = true then PySem.W.subIn K (.ref C) (.ref D) else none) = some b
    rw [if_pos (by rw [h1', e.typ]; rfl)]
    exact h
theorem kit_VE (h : PySem.W.subIn K (.ref C) (.type "ValueError") = some true) : PySem.W.kitOne K (.ref C) (.type "ValueError") = some true := by
  unfold PySem.W.kitOne
  rw [if_neg (by intro z; cases (beq_iff_eq.mp z))]
  show (if PySem.W.kitMeta "ValueError" = true then PySem.W.subIn K (.ref C) (.type "ValueError") else none) = some true
  rw [if_pos (by decide +kernel)]
  exact h
theorem kit_nil : PySem.W.kitAny K (.ref C) [] = some false := rfl
theorem kit_cons {c : Value} {r : List Value} (h : PySem.W.kitOne K (.ref C) c = some false) (h2 : PySem.W.kitAny K (.ref C) r = some b) : PySem.W.kitAny K (.ref C) (c :: r) = some b := by
  unfold PySem.W.kitAny
  rw [h]
  exact h2
theorem kit_hit {c : Value} {r : List Value} (h : PySem.W.kitOne K (.ref C) c = some true) : PySem.W.kitAny K (.ref C) (c :: r) = some true := by
  unfold PySem.W.kitAny
  rw [h]
theorem exm_sub (e : ErrN K D) (h : PySem.W.subIn K (.ref C) (.ref D) = some b) : PySem.W.exmOne K (.ref C) (.ref D) = some b := PySem.W.exm_ref e.exB e.hd e.typ h
theorem w_isX (hd : H dd = some (.xd fs)) (ec : ExcC K C) (e : ErrN K D) (self : PySem.W.subIn K (.ref C) (.ref C) = some true) (h : PySem.W.subIn K (.ref C) (.ref D) = some b) (q : Q (.bl b) H) : rIsX K a (.ref C) (some dd) [.ref a, .ref D] H Q :=
  ⟨_, C, dd, fs, b, rfl, rfl, rfl, hd, ec, .inl ⟨_, .own D, kit_sub e self h⟩, q⟩
theorem w_isXV (hd : H dd = some (.xd fs)) (ec : ExcC K C) (h : PySem.W.subIn K (.ref C) (.type "ValueError") = some true) (q : Q (.bl true) H) : rIsX K a (.ref C) (some dd) [.ref a, .ty "ValueError"] H Q :=
  ⟨_, C, dd, fs, true, rfl, rfl, rfl, hd, ec, .inl ⟨_, .ty _, kit_VE h⟩, q⟩
theorem w_isXT {tp : Addr} {cs : List V} {us : List Value} (hd : H dd = some (.xd fs)) (ec : ExcC K C) (ht : H tp = some (.tup cs)) (hp : Paired ClsV cs us) (hk : PySem.W.kitAny K (.ref C) us = some b) (q : Q (.bl b) H) : rIsX K a (.ref C) (some dd) [.ref a, .ref tp] H Q :=
  ⟨_, C, dd, fs, b, rfl, rfl, rfl, hd, ec, .inr ⟨tp, cs, us, rfl, ht, hp, hk⟩, q⟩
theorem w_xf {f : Str} {te : TE} {v : V} (q : te σ H fun x H1 => x = .ref a ∧ H1 dd = some (.xd fs) ∧ fs.lookup f = some v ∧ Q v H1) (hm : ∀ {QA QB : VK}, (∀ x H1, QA x H1 → QB x H1) → te σ H QA → te σ H QB) : tXf a (.ref C) (some dd) C f te σ H Q :=
  hm (fun _ _ ⟨h1, h2, h3, h4⟩ => ⟨h1, rfl, dd, fs, v, rfl, h2, h3, h4⟩) q
theorem w_xfV {f : Str} {i : Nat} {v : V} (hi : σ[i]? = some (some (.ref a))) (hd : H dd = some (.xd fs)) (hl : fs.lookup f = some v) (q : Q v H) : tXf a (.ref C) (some dd) C f (tVar i) σ H Q :=
  ⟨.ref a, hi, rfl, rfl, dd, fs, v, rfl, hd, hl, q⟩
theorem w_mkErrV {f : Str} {i : Nat} {v : V} {QX : XK} (o : OexC K C) (n : PySem.W.findIn K (.ref C) f = some none) (h : σ[i]? = some (some v)) (q : ∀ d, H d = none → QX (.ref C) (some d) (upd H d (.xd [(f, v)]))) : tMkO C (spErr K f) [] (tCons (tVar i) tNil) σ H QX :=
  w_mkErr o n ⟨v, h, ⟨v, rfl, q⟩⟩ fun hq ⟨x, hx, z⟩ => ⟨x, hx, hq _ _ z⟩
theorem w_makeT {C : Addr} {sp : Sp} {dvs : List V} {E : L2.St → XK} {t : TA} {σ : L2.St} {H : Hp} {Q : VK} (q : t σ H fun vs H1 => ∀ x dx, H1 x = none → H1 dx = none → dx ≠ x → sp (.ref x :: (vs ++ dvs)) (upd (upd H1 dx (.own x)) x (.ins C dx [])) (fun v H2 => v = .non ∧ Q (.ref x) H2) (E σ)) : tMakeT C sp dvs E t σ H Q := q
theorem w_methT {C : Addr} {m : Str} {sp : Sp} {dvs : List V} {E : L2.St → XK} {ta : TE} {t : TA} {σ : L2.St} {H : Hp} {Q : VK} (q : ta σ H fun x H1 => ∃ a dx fs, x = .ref a ∧ H1 a = some (.ins C dx fs) ∧ fs.lookup m = none ∧ t σ H1 fun vs H2 => sp (x :: (vs ++ dvs)) H2 Q (E σ)) : tMethT C m sp dvs E ta t σ H Q := q
theorem w_callS {sp : Sp} {E : L2.St → XK} {t : TA} {σ : L2.St} {H : Hp} {Q : VK} (q : t σ H fun vs H1 => sp vs H1 Q (E σ)) : tCallS sp E t σ H Q := q
end
end L2

namespace L2
open PySem PySem.Spec PyProof.Rows
/-! ### defs that may ask for the repr of lists and tuples: they are called where no repr is under way -/
/-- as FnOk, but only where no repr is under way -/
structure FnG (P : Program) (w : World) (K : PySem.W.Frag) (mg : Str → Option Value) (base : Heap) (CX : CXT) (k : Nat) (f : Addr) (fd : FuncData) (ps : List Str) (sp : Sp) : Prop where
  len : ∀ vs H Q E, sp vs H Q E → vs.length = ps.length
  run : ∀ (A : Around) (outer : List Env) (s : Shared) (H : Hp) (args : Args) (us : List Value) (vs : List V) (Q : VK) (E : XK), A.guards = some [] → Room k A → Env0 P w K mg base A outer s H → BindsTo s fd args (ps.zip us) → Vals vs us → sp vs H Q E →
    codeAny (model P w) A (.call (.ref f) args) (CR CX outer P w H s Q E) s
section
variable {P : Program} {w : World} {K : PySem.W.Frag} {mg : Str → Option Value} {base : Heap} {CX : CXT}
theorem FnOk.toG {k : Nat} {f : Addr} {fd : FuncData} {ps : List Str} {sp : Sp} (F : FnOk P w K mg base CX k f fd ps sp) : FnG P w K mg base CX k f fd ps sp := ⟨F.len, fun A outer s H args us vs Q E _ hr => F.run A outer s H args us vs Q E hr⟩
/-- the body of such a def -/
theorem Fun.okG {x qual : Str} {st : Stmt} {f : Addr} {fd : FuncData} {N ps : List Str} {k : Nat} {sp : Sp} (F : Fun K x qual st f fd) (S : FnScope N ps (defScope st)) (len : ∀ vs H Q E, sp vs H Q E → vs.length = ps.length)
    (hbody : ∀ (cdv : Value) (A : Around) (outer : List Env) (s : Shared) (H : Hp) (vs : List V) (Q : VK) (E : XK), A.guards = some [] → Room k (A.deeper (envOfC qual (defScope st) s.heap.objs.size f cdv)) → sp vs H Q E →
      ∃ t, PSs (cxOf CX0 P w K mg base N qual (defScope st) f cdv A outer s H E).nox (defBody st) t ∧ t { nx := fun _ H' => Q .non H', rt := Q } (start N vs) H) : FnG P w K mg base CX0 (k + 1) f fd ps sp := by
  obtain ⟨oc, od, kV, doc, pm, an, cdv, ct, osl, rfl, lk, hcd⟩ := F.ex
  refine ⟨len, fun A outer s H args us vs Q E hA hr e0 hb r hsp => ?_⟩
  have hl := len _ _ _ _ hsp
  have kept : ∀ b o, base.get? b = some o → s.heap.get? b = some o := fun b o e => (e0.bs b o e).1
  have seen := e0.mod.kin.keeps kept
  refine codeAny_call_function hr.depth (seen _ _ lk) rfl S.co S.gen rfl (PySem.W.codeRec_of seen hcd) (hb _ _ _ _ (wpAny_newFunctionEnv_cells S.kind (fun ⟨n, v⟩ hy => ?_) fun env he s1 x => ?_))
  · exact (S.par n (List.of_mem_zip hy).1).imp id fun q => ⟨q, PySem.W.cellsFrom_some _ _ _ (.inl q)⟩
  · subst he
    obtain ⟨t, ht, hq⟩ := hbody cdv A outer s H vs Q E hA (hr.deeper _) hsp
    have I := inv_start (CX := CX0) (E := E) S hr.hd e0 hl r x
    refine ⟨(e0.mod.nolimit.keeps kept).keeps x.toInCall.keep, codeAny_func (wpAny_mono (ht.nox.run [] s1 (start N vs) H _ I hq) (fun fl s' hs => ?_) fun _ _ hs => hs)⟩
    cases fl with
    | next =>
      obtain ⟨_, H', J, q⟩ := hs
      exact ⟨.non, H', J.os, J.bare, J.base, J.hok, rfl, q⟩
    | ret u =>
      obtain ⟨v, _, H', J, rv, q⟩ := hs
      exact ⟨v, H', J.os, J.bare, J.base, J.hok, rv, q⟩
    | brk =>
      obtain ⟨_, _, _, q⟩ := hs
      exact q.elim
    | cont =>
      obtain ⟨_, _, _, q⟩ := hs
      exact q.elim
end
section
variable {X : Cx} {CX : CXT} {k : Nat} {f : Addr} {fd : FuncData} {ps : List Str} {sp : Sp} {E : XK} {x : Str} {p pos : Pos} {e : Expr} {es : List Expr} {t : TA}
/-- f(e, ..) of such a def -/
theorem pe_callG (F : FnG X.prog X.w X.K X.mg X.base CX k f fd ps sp) (hA : X.A.guards = some []) (hr : Room k X.A) (hg : Gl X x) (hm : X.mg x = some (.ref f)) (hk : PySem.W.keepIn X.K (.ref f) = true) (hb : Binds X.K fd ps []) (hx : Passes CX X E)
    (ha : PA X (e :: es) t) (hdb : (x == ("__debug__" : Str)) = false := by decide) (he : starEach (e :: es) X.env = (false, eval e X.env) :: starEach es X.env := by rfl) (hpl : (backTo pos (starEach es X.env)).any (·.1) = false := by rfl) :
    PE X (.Call (.Name x p) (e :: es) [] pos) (tCall sp [] E t) := by
  refine ⟨fun pins s σ H Q I h => wpAny_Call_Name_kw (ld_glob I hg hm ?_ hdb)⟩
  refine PySem.W.callWith_K (h₀ := X.base) I.ok.mod.kin hk (thn (ha.run pos pins s σ H _ I h) fun us s1 ⟨vs, H1, J, r, q⟩ => ⟨J.kIn, ?_⟩) he hpl
  have q : sp vs H1 Q E := by
    have h : sp (vs ++ []) H1 Q E := q
    rwa [List.append_nil] at h
  show wpAny _ _ (call (.ref f) us) _ _ _
  have b := hb s1 us J.kIn (by rw [List.append_nil, ← r.length]; exact F.len _ _ _ _ q)
  rw [List.append_nil] at b
  refine wpAny_call (codeAny_mono (F.run X.A X.stack s1 H1 ⟨us, []⟩ us vs Q E hA hr J.env0 b r q) fun r' s' z => ?_)
  match r', z with
  | .error e, z => exact hx pins σ H1 s1 e s' J z
  | .ok (.ret u), z => exact J.after z
  | .ok .next, z => exact False.elim z
  | .ok .brk, z => exact False.elim z
  | .ok .cont, z => exact False.elim z
/-- repr(v) of plain data -/
def rRepr (K : PySem.W.Frag) : List V → Hp → VK → Prop := fun xs H Q => ∃ (x : V) (d : PyData), xs = [x] ∧ Dp K H x d ∧ d.showable = true ∧ d.hasDict = false ∧ d.depth ≤ 30 ∧ (d.shown.length ≤ 10000 ∨ ∃ i, d = .int i) ∧ Q (.str d.shown) H
theorem call_reprG {X : Cx} (hA : X.A.guards = some []) (hu : X.A.units + 64 < cLine) : CallR X (.builtin "repr") (rRepr X.K) := by
  intro pins s σ H xs us Q I r h
  obtain ⟨x, d, rfl, hd, hs, hn, hdp, hz, q⟩ := h
  obtain ⟨u, rfl, rx⟩ := vals1 r
  obtain ⟨as, rd⟩ := Dp.reads I d x u hd rx
  have fits : (∀ i, d ≠ .int i) → d.shown.length ≤ sizeLine := fun h => by
    rcases hz with z | ⟨i, z⟩
    · rw [sizeLine_eq]; omega
    · exact absurd z (h i)
  cases hd with
  | non => cases (show u = Value.none from rx); exact PySem.P.repr_of_none ⟨.str (PyData.shown .none), H, I.tok _, ⟨_, rfl⟩, q⟩
  | bl b => cases (show u = Value.bool b from rx); exact PySem.P.repr_of_bool ⟨.str (PyData.shown (.bool b)), H, I.tok _, ⟨_, rfl⟩, q⟩
  | int i =>
    obtain ⟨t, rfl⟩ := (show ∃ t, u = Value.int i t from rx)
    exact PySem.P.repr_of_int (of_decide_eq_true hs) ⟨.str (PyData.shown (.int i)), H, I.tok _, ⟨_, rfl⟩, q⟩
  | str z =>
    obtain ⟨t, rfl⟩ := (show ∃ t, u = Value.str z t from rx)
    exact PySem.P.repr_of_str ⟨.str (PyData.shown (.str z)), H, I.tok _, ⟨_, rfl⟩, q⟩ (fits fun _ z => by cases z)
  | lst _ _ =>
    cases (show u = Value.ref _ from rx)
    exact repr_of_reads' rd hs (fun z => by rw [hn] at z; cases z) hA (by omega) (fun _ _ e => e) (fun h' t tk hk => ⟨.str (PyData.shown _), H, I.kept hk, ⟨_, rfl⟩, q⟩) (fits fun _ z => by cases z)
  | tup _ _ =>
    cases (show u = Value.ref _ from rx)
    exact repr_of_reads' rd hs (fun z => by rw [hn] at z; cases z) hA (by omega) (fun _ _ e => e) (fun h' t tk hk => ⟨.str (PyData.shown _), H, I.kept hk, ⟨_, rfl⟩, q⟩) (fits fun _ z => by cases z)
end
end L2
namespace L2
open PySem PySem.Spec PyProof.Rows
/-- the law's def, asked at the top, where no repr is under way -/
theorem law_askG {P : Program} {w : World} {K : PySem.W.Frag} {mg mb : Str → Option Value} {CX : CXT} {k : Nat} {fa a : Addr} {fd : FuncData} {x : Str} {sp : Sp} {s₁ : Shared} {vs : List Value} {ns : List Int}
    (KX : K.In s₁.heap) (hns : s₁.heap.Ns mainGlobals mg) (hb : s₁.heap.Ns builtinsNs mb) (hbb : ∀ x : Str, x ≠ "__name__" → mb x = bootBuiltins x) (hlim : s₁.heap.NoLimit) (hg : s₁.gens = #[])
    (ha : s₁.heap.get? a = some { cls := .type "list", data := .seq vs.toArray }) (hi : IntsAre vs ns) (hl : ns.length ≤ sizeLine) (hr : Room k callerA)
    (F : ∀ base : Heap, K.In base → base.Ns mainGlobals mg → FnG P w K mg base CX k fa fd [x] sp) (hbind : ∀ (s : Shared) (u : Value), BindsTo s fd ⟨[u], []⟩ [(x, u)])
    (hsp : ∀ H : Hp, Only H → SqL K H a (ns.map V.int) → sp [.ref a] H (fun v _ => v = .bl true) fun _ _ _ => False)
    (hCX : ∀ H e s', CX [] H s₁ (fun _ _ _ => False) e s' → False) :
    codeAny (model P w) callerA (.call (.ref fa) ⟨[.ref a], []⟩) (fun r s' => r = .ok (.ret (.bool true)) ∧ OldK s₁.heap s'.heap ∧ s'.os = s₁.os ∧ AllBare s'.gens) s₁ := by
  have rv := vals_ints hi
  -- what is told of the heap: the script, if it is none of the module's own objects
  obtain ⟨H, hH, hS, hok, hK⟩ : ∃ H : Hp, (∀ b, H b = none ∨ (b = a ∧ ∃ o xs, H b = some (.frz o (.lst xs)))) ∧ SqL K H a (ns.map V.int) ∧ HOk P w H s₁.heap ∧ (∀ b o, K.lookup b = some o → H b = none) := by
    cases hk : K.lookup a with
    | some o =>
      obtain rfl : o = { cls := .type "list", data := .seq vs.toArray } := Option.some.inj ((KX a o hk).symm.trans ha)
      exact ⟨fun _ => none, fun _ => .inl rfl, .inr ⟨_, vs.toArray, _, hk, rfl, rfl, rfl, by rw [List.size_toArray, hi.length]; exact hl, rv⟩, fun _ _ z => (by cases z), fun _ _ _ => rfl⟩
    | none =>
      refine ⟨fun b => if b = a then some (.frz { cls := .type "list", data := .seq vs.toArray } (.lst (ns.map V.int))) else none, fun b => ?_, .inl (.inr ⟨_, if_pos rfl⟩), fun b u z => ?_, fun b o hb => ?_⟩
      · by_cases e : b = a
        · exact .inr ⟨e, _, _, if_pos e⟩
        · exact .inl (if_neg e)
      · by_cases e : b = a
        · subst e
          cases (if_pos rfl).symm.trans z
          exact ⟨ha, by rw [List.length_map]; exact hl, vs, _, rv, ha⟩
        · cases (if_neg e).symm.trans z
      · refine if_neg fun e => ?_
        rw [e, hk] at hb
        cases hb
  have hO : Only H := fun b => (hH b).imp id fun h => h.2
  -- the ground: all but the script
  have keepNs : ∀ {b : Addr} {m : Str → Option Value}, s₁.heap.Ns b m → (hidT s₁.heap H).Ns b m := fun {b m} ⟨o, es, ep, e, d, r⟩ => by
    refine ⟨o, es, ep, hidT_get e ?_, d, r⟩
    rcases hH b with h | ⟨rfl, _⟩
    · exact h
    · cases ha.symm.trans e
      cases (show Data.seq vs.toArray _ = Data.dict es ep from d)
  have inK : K.In (hidT s₁.heap H) := fun b o e => hidT_get (KX b o e) (hK b o e)
  obtain ⟨mc, l1, l2⟩ := hlim
  have e0 : Env0 P w K mg (hidT s₁.heap H) callerA [] s₁ H := ⟨rfl, ⟨inK, keepNs hns, ⟨mb, keepNs hb, hbb⟩, ⟨mc, keepNs l1, l2⟩⟩, fun _ _ e => of_hidT e, Nat.le_of_eq (hidT_size _ _), trivial, fun _ z => (nomatch (show _ ∈ ([] : List Addr) from z)), hok, .of_eq hg⟩
  refine codeAny_mono ((F _ inK (keepNs hns)).run callerA [] s₁ H ⟨[.ref a], []⟩ [.ref a] [.ref a] _ _ rfl hr e0 (hbind s₁ (.ref a)) (.cons rfl .nil) (hsp H hO hS)) fun r s' h => ?_
  match r, h with
  | .error e, h => exact (hCX H e s' h).elim
  | .ok .next, h => exact False.elim h
  | .ok .brk, h => exact False.elim h
  | .ok .cont, h => exact False.elim h
  | .ok (.ret u), h =>
    obtain ⟨v, H', os, bare, un, hok', rv', hv⟩ := h
    obtain rfl : v = .bl true := hv
    obtain rfl : u = Value.bool true := rv'
    refine ⟨rfl, OldK.of_keep fun b o e => ?_, os, bare⟩
    rcases hH b with hb0 | ⟨_, ob, xs, hb0⟩
    · exact un.keep b o e hb0 (fun z => (nomatch (show b ∈ ([] : List Addr) from z))) (by simp)
    · obtain ⟨g1, _⟩ := hok b _ hb0
      cases g1.symm.trans e
      exact (hok' b _ (un.frzs b _ _ hb0)).1
theorem walk_ofG {l : PySem.W.OpenLaw} {n k : Nat} {q : Program} {loose : List Str} {XP : (Str → Option Value) → Heap → Prop} {YP : World → Heap → Prop} {d : DefRec} {K : Params → PySem.W.Frag} {CX : World → CXT} {sp : World → Sp} {x : Str}
    (hn : l.most = some n) (hn2 : n ≤ sizeLine) (hdf : d.params.defaults = []) (hr : Room k callerA) (hY : ∀ (w : World) (h : Heap), YP w h → (K w.params).In h)
    (F : ∀ (w : World) (mg : Str → Option Value) (fa : Addr) (h : Heap), (K w.params).In h → h.Ns mainGlobals mg → mg d.name = some (.ref fa) →
      ∃ fd : FuncData, (∀ (s : Shared) (u : Value), BindsTo s fd ⟨[u], []⟩ [(x, u)]) ∧ ∀ base : Heap, (K w.params).In base → base.Ns mainGlobals mg → FnG l.prog w (K w.params) mg base (CX w) k fa fd [x] (sp w))
    (hsp : ∀ (w : World) (H : Hp) (a : Addr) (ns : List Int), ns.length ≤ n → Only H → SqL (K w.params) H a (ns.map V.int) → sp w [.ref a] H (fun v _ => v = .bl true) fun _ _ _ => False)
    (hCX : ∀ (w : World) (H : Hp) (s : Shared) (e : Value) (s' : Shared), CX w [] H s (fun _ _ _ => False) e s' → False) :
    PySem.W.WalkO q loose XP YP l.row.toRowW d [] (fun f vs => PySem.call f vs) :=
  Att.attach_call hn hdf fun w s₀ s₁ mg mb fa o pm cd doc a vs ns G Y ho hd hcd hmg hobj hints hlen hg => by
    obtain ⟨fd, hb, hF⟩ := F w mg fa _ (hY w _ Y) G.T.g hmg
    exact law_askG (hY w _ Y) G.T.g G.T.b G.T.builtins G.T.nolimit hg hobj hints (Nat.le_trans hlen hn2) hr hF hb (fun H hO hS => hsp w H a ns hlen hO hS) fun H e s' => hCX w H s₁ e s'
end L2

namespace L2
open PySem PySem.Spec PyProof.Rows
/-! ### own errors whose context is told: raised, caught, handed on to a def -/
section
variable {P : Program} {w : World} {K : PySem.W.Frag} {mg : Str → Option Value} {base : Heap}
/-- a def that may raise -/
theorem Fun.okN {x qual : Str} {st : Stmt} {f : Addr} {fd : FuncData} {N ps : List Str} {k : Nat} {sp : Sp} (F : Fun K x qual st f fd) (S : FnScope N ps (defScope st)) (len : ∀ vs H Q E, sp vs H Q E → vs.length = ps.length)
    (hbody : ∀ (cdv : Value) (A : Around) (outer : List Env) (s : Shared) (H : Hp) (vs : List V) (Q : VK) (E : XK), Room k (A.deeper (envOfC qual (defScope st) s.heap.objs.size f cdv)) → sp vs H Q E →
      ∃ t, PSs (cxOf (L2N.CX P w) P w K mg base N qual (defScope st) f cdv A outer s H E) (defBody st) t ∧ t { nx := fun _ H' => Q .non H', rt := Q } (start N vs) H) : FnOk P w K mg base (L2N.CX P w) (k + 1) f fd ps sp := by
  obtain ⟨oc, od, kV, doc, pm, an, cdv, ct, osl, rfl, lk, hcd⟩ := F.ex
  exact fn_of lk hcd S len (hbody cdv)
theorem passN {X : Cx} : Passes (L2N.CX X.prog X.w) X E0 := fun _ _ _ _ _ _ _ ⟨_, _, _, _, _, _, _, _, _, _, _, _, z⟩ => z.elim
theorem takesN0 {X : Cx} : L2N.Takes X (fun _ _ _ _ => False) := fun _ _ ⟨_, _, _, _, _, _, _, _, _, _, _, _, _, _, _, _, z⟩ => z.elim
/-- an own error made by its own __init__, its context told -/
theorem pmk_oexN {X : Cx} {CX : CXT} {x : Str} {e : Expr} {es : List Expr} {ta : TA} {p pos : Pos} {C fI : Addr} {k : Nat} {fd : FuncData} {ps : List Str} {sp : Sp} (T : OexC X.K C) (iC : PySem.W.findIn X.K (.ref C) "__init__" = some (some (.ref fI))) (tI : PySem.W.typeIn X.K (.ref fI) = some (.type "function"))
    (F1 : FnOk X.prog X.w X.K X.mg X.base CX k fI fd ps sp) (hr : Room (k + 1) X.A) (hb : Binds X.K fd ps []) (hx : Passes CX X (fun _ _ _ => False)) (hg : Gl X x) (hm : X.mg x = some (.ref C)) (ha : PA X (e :: es) ta)
    (hdb : (x == ("__debug__" : Str)) = false := by decide) (he : starEach (e :: es) X.env = (false, eval e X.env) :: starEach es X.env := by rfl) (hpl : (backTo pos (starEach es X.env)).any (·.1) = false := by rfl) :
    L2N.PMk X (.Call (.Name x p) (e :: es) [] pos) (tMkO C sp [] ta) := by
  intro pins s σ H Q I h
  obtain ⟨_, _, _, _, bm, _, _, _, _, _, _, _, _, _, _, hC, hbm⟩ := T.cls
  refine wpAny_Call_Name_kw (ld_glob I hg hm ?_ hdb)
  refine PySem.W.callWith_K (h₀ := X.base) I.ok.mod.kin T.kC (thn (ha.run pos pins s σ H _ I h) fun us ⟨hp, g, dr, tk, os⟩ ⟨vs, H1, J, r, hz, q⟩ => ⟨J.kIn, ?_⟩) he hpl
  show wpAny _ _ (call (.ref C) us) _ _ _
  -- where the error will stand
  let n := hp.objs.size + 1
  have hn : hp.objs.size ≤ n := Nat.le_succ _
  let hp2 := (hp.push (PySem.W.kdv_tup us)).push (PySem.HandSPX.excO C hp.objs.size)
  have keeps : ∀ b o, hp.get? b = some o → hp2.get? b = some o := fun b o z => Heap.get?_push_of_some _ (Heap.get?_push_of_some _ z)
  have there : hp2.get? n = some (PySem.HandSPX.excO C hp.objs.size) := by
    show ((hp.push (PySem.W.kdv_tup us)).push (PySem.HandSPX.excO C hp.objs.size)).get? (hp.objs.size + 1) = _
    heap_get
  have J2 : Inv X pins σ (upd H1 n (exo n C none)) ⟨hp2, g, dr, tk, os⟩ := J.laid (t' := tk) keeps hn (exo_ok there)
  have q1 := q n (J.hok.fresh hn)
  rw [List.append_nil] at q1
  have r2 : Vals (V.ref n :: vs) (Value.ref n :: us) := .cons rfl r
  have b2 := hb ⟨hp2, g, dr, tk, os⟩ (Value.ref n :: us) J2.kIn (by rw [List.append_nil, ← r2.length]; exact F1.len _ _ _ _ q1)
  rw [List.append_nil] at b2
  refine wpAny_call (PySem.HandSPX.call_own F.excBase_ValueError (fun Y => PySem.HandSPX.refsVE_contains Y bm hbm) (J.kIn _ _ hC) (PySem.W.looks_findIn J.kIn iC) (fun self => PySem.W.bind_fn J.kIn self tI) (by rw [← Paired.length r, sizeLine_eq]; omega)
    (codeAny_mono (F1.run _ X.stack _ _ ⟨Value.ref n :: us, []⟩ _ _ _ (fun _ _ _ => False) (hr.make C us []) (J2.env0.make C us []) b2 r2 q1) fun r' ⟨h2, g2, d2, t2, o2⟩ z => ?_))
  match r', z with
  | .error er, z => exact hx pins σ _ _ er _ J2 z
  | .ok .next, z => exact False.elim z
  | .ok .brk, z => exact False.elim z
  | .ok .cont, z => exact False.elim z
  | .ok (.ret u), z =>
    obtain ⟨v, H2, eo, bare, un, hok, rv, ev, d, fs, ea, ed, hd, qq⟩ := z
    subst ev
    obtain ⟨t0, G, JG, kG, gn, hoe, na⟩ := mk_end0 (d2 := d2) (t2 := t2) J hn keeps un hok eo bare ea ed hd
    exact ⟨rv, n, _, _, ⟨G, g2, d2, t2, o2⟩, _, .ref C, some d, rfl, JG, kG, gn, hoe, ⟨rfl, rfl, fun vs hv => by cases hv; rfl⟩, rfl, rfl, na, rfl, bare, raises_own T.exC T.tyC, qq⟩
end
end L2
namespace L2
open PySem PySem.Spec PyProof.Rows
/-! ### a def to which the caught error is handed -/
/-- err.f, wherever the error is kept aside -/
theorem pe_xfP {X : Cx} {a C : Addr} {oe : Obj} {cls : Value} {d : Option Addr} {e : Expr} {te : TE} {pos : Pos} {n : Str} (T : XfC X.K C) (hno : PySem.W.findIn X.K (.ref C) n = some none) (hp : (a, oe) ∈ X.pn) (hz : Zc cls d oe) (hf : ∃ vs, oe.data = .fields vs) (he : PE X e te)
    (hb : attributeBase e n X.env (eval e X.env) = eval e X.env := by rfl) : PE X (.Attribute e n pos) (tXf a cls d C n te) := by
  refine ⟨fun pins s σ H Q I h => attr_of hb (thn (he.run pins s σ H _ I h) fun u s1 ⟨x, H1, J, rx, ex, ec, dd, fs, v, ed, ea, l, q⟩ => ?_)⟩
  subst ex ec ed
  obtain rfl : u = Value.ref a := rx
  obtain ⟨vs, hv⟩ := hf
  obtain ⟨mA, hns, hr⟩ := (show ObjOk X.prog X.w H1 s1.heap dd (.xd fs) from J.hok dd _ ea)
  obtain ⟨od, ho, hl⟩ := lookIn_ns hns
  obtain ⟨u', hu, ru⟩ := RelO.some_of (v := v) (o := mA n) (by rw [← l]; exact hr n)
  have inst : PySem.W.InstAt s1.heap a oe C (some od) := ⟨(J.pin (a, oe) (List.mem_append_left _ hp)).1, hz.1, by unfold PySem.W.notCls; rw [hv] <;> rfl, by rw [hz.2]; exact ho⟩
  exact HandSPX.exc_get J.kIn inst T.ga T.gg T.exC (PySem.W.findObj_own T.hdC hno rfl (by rw [hl, hu])) (handed_of ru) ⟨v, H1, J.tok _, ru, q⟩
theorem _root_.L2H.RoomH.units {k : Nat} {A : Around} (r : L2H.RoomH k A) : A.units + 64 < cLine := by have := r.un; omega
structure FnE (P : Program) (w : World) (K : PySem.W.Frag) (mg : Str → Option Value) (base : Heap) (k : Nat) (f : Addr) (fd : FuncData) (ps : List Str) (sp : Addr → Value → Option Addr → Sp) : Prop where
  len : ∀ a cls d vs H Q E, sp a cls d vs H Q E → vs.length = ps.length
  run : ∀ (A : Around) (outer : List Env) (s : Shared) (H : Hp) (args : Args) (us : List Value) (vs : List V) (Q : VK) (a : Addr) (oe : Obj) (cls : Value) (d : Option Addr), A.guards = some [] → L2H.RoomH k A → L2H.Hot1 A (a, oe) → Zc cls d oe → L2H.PinOk outer H s (a, oe) →
    Env0 P w K mg base A outer s H → BindsTo s fd args (ps.zip us) → Vals vs us → sp a cls d vs H Q E0 → codeAny (model P w) A (.call (.ref f) args) (CR CX0 outer P w H s Q E0) s
section
variable {P : Program} {w : World} {K : PySem.W.Frag} {mg : Str → Option Value} {base : Heap}
theorem Fun.okE {x qual : Str} {st : Stmt} {f : Addr} {fd : FuncData} {N ps : List Str} {k : Nat} {sp : Addr → Value → Option Addr → Sp} (F : Fun K x qual st f fd) (S : FnScope N ps (defScope st)) (len : ∀ a cls d vs H Q E, sp a cls d vs H Q E → vs.length = ps.length)
    (hbody : ∀ (cdv : Value) (A : Around) (outer : List Env) (s : Shared) (H : Hp) (vs : List V) (Q : VK) (a : Addr) (oe : Obj) (cls : Value) (d : Option Addr), A.guards = some [] → Zc cls d oe → (∃ vs, oe.data = .fields vs) → L2H.RoomH k (A.deeper (envOfC qual (defScope st) s.heap.objs.size f cdv)) → sp a cls d vs H Q E0 →
      ∃ t, PSs (L2H.cxH CX0 P w K mg base N qual (defScope st) f cdv A outer s H E0 (a, oe)) (defBody st) t ∧ t { nx := fun _ H' => Q .non H', rt := Q } (start N vs) H) : FnE P w K mg base (k + 1) f fd ps sp := by
  obtain ⟨oc, od, kV, doc, pm, an, cdv, ct, osl, rfl, lk, hcd⟩ := F.ex
  refine ⟨len, fun A outer s H args us vs Q a oe cls d hA hr hot hz hpin e0 hb r hsp => ?_⟩
  have hl := len _ _ _ _ _ _ _ hsp
  have kept : ∀ b o, base.get? b = some o → s.heap.get? b = some o := fun b o e => (e0.bs b o e).1
  have seen := e0.mod.kin.keeps kept
  refine codeAny_call_function hr.depth (seen _ _ lk) rfl S.co S.gen rfl (PySem.W.codeRec_of seen hcd) (hb _ _ _ _ (wpAny_newFunctionEnv_cells S.kind (fun ⟨n, v⟩ hy => ?_) fun env he s1 x => ?_))
  · exact (S.par n (List.of_mem_zip hy).1).imp id fun q => ⟨q, PySem.W.cellsFrom_some _ _ _ (.inl q)⟩
  · subst he
    obtain ⟨v0, hv0, _⟩ := hot.2
    obtain ⟨t, ht, hq⟩ := hbody cdv A outer s H vs Q a oe cls d hA hz ⟨v0, hv0⟩ (hr.deeper _) hsp
    have I := L2H.inv_startH (CX := CX0) (E := E0) S hpin e0 hl r x
    refine ⟨(e0.mod.nolimit.keeps kept).keeps x.toInCall.keep, codeAny_func (wpAny_mono (ht.run [] s1 (start N vs) H _ I hq) (fun fl s' hs => ?_) fun _ _ hs => hs)⟩
    cases fl with
    | next =>
      obtain ⟨_, H', J, q⟩ := hs
      exact ⟨.non, H', J.os, J.bare, J.base, J.hok, rfl, q⟩
    | ret u =>
      obtain ⟨v, _, H', J, rv, q⟩ := hs
      exact ⟨v, H', J.os, J.bare, J.base, J.hok, rv, q⟩
    | brk =>
      obtain ⟨_, _, _, q⟩ := hs
      exact q.elim
    | cont =>
      obtain ⟨_, _, _, q⟩ := hs
      exact q.elim
end
/-- f(e, ..) within the suite -/
theorem pe_callE {X : Cx} {k : Nat} {f : Addr} {fd : FuncData} {ps : List Str} {sp : Addr → Value → Option Addr → Sp} {x : Str} {p pos : Pos} {e : Expr} {es : List Expr} {t : TA} {a : Addr} {oe : Obj} {cls : Value} {d : Option Addr} {pn : List (Addr × Obj)}
    (F : FnE X.prog X.w X.K X.mg X.base k f fd ps sp) (hA : X.A.guards = some []) (hr : Room k X.A) (hz : L2N.Zn cls d oe) (hf : ∃ vs, oe.data = .fields vs) (hg : Gl X x) (hm : X.mg x = some (.ref f)) (hk : PySem.W.keepIn X.K (.ref f) = true) (hb : Binds X.K fd ps [])
    (ha : PA (X.suite a ((a, oe) :: pn)) (e :: es) t) (hdb : (x == ("__debug__" : Str)) = false := by decide) (he : starEach (e :: es) X.env = (false, eval e X.env) :: starEach es X.env := by rfl) (hpl : (backTo pos (starEach es X.env)).any (·.1) = false := by rfl) :
    PE (X.suite a ((a, oe) :: pn)) (.Call (.Name x p) (e :: es) [] pos) (tCall (sp a cls d) [] E0 t) := by
  refine ⟨fun pins s σ H Q I h => wpAny_Call_Name_kw (ld_glob (X := X.suite a ((a, oe) :: pn)) I hg hm ?_ hdb)⟩
  refine PySem.W.callWith_K (h₀ := X.base) I.ok.mod.kin hk (thn (ha.run pos pins s σ H _ I h) fun us s1 ⟨vs, H1, J, r, q⟩ => ⟨J.kIn, ?_⟩) he hpl
  have q : sp a cls d vs H1 Q E0 := by
    have h : sp a cls d (vs ++ []) H1 Q E0 := q
    rwa [List.append_nil] at h
  show wpAny _ _ (call (.ref f) us) _ _ _
  have b := hb s1 us J.kIn (by rw [List.append_nil, ← r.length]; exact F.len _ _ _ _ _ _ _ q)
  rw [List.append_nil] at b
  obtain ⟨v0, hv0⟩ := hf
  have P1 := J.pin (a, oe) (List.mem_append_left _ List.mem_cons_self)
  have pin : L2H.PinOk X.stack H1 s1 (a, oe) := ⟨P1.1, P1.2.1, fun z => (List.mem_cons.mp (J.stkSub a z)).elim P1.2.2.1 P1.2.2.2.1, P1.2.2.2.2⟩
  refine wpAny_call (codeAny_mono (F.run (X.A.mark (some (.ref a))) X.stack s1 H1 ⟨us, []⟩ us vs Q a oe cls d hA ⟨hr.dp, hr.un⟩ ⟨rfl, v0, hv0, hz.2.2 _ hv0⟩ hz.zc pin J.env0 b r q) fun r' s' z => ?_)
  match r', z with
  | .error _, z => exact False.elim z
  | .ok (.ret u), z => exact J.after z
  | .ok .next, z => exact False.elim z
  | .ok .brk, z => exact False.elim z
  | .ok .cont, z => exact False.elim z
end L2
namespace L2
open PySem PySem.Spec PyProof.Rows
section
variable {P : Program} {w : World} {K : PySem.W.Frag} {mg : Str → Option Value} {base : Heap} {CX : CXT} {k : Nat} {f : Addr} {fd : FuncData} {ps : List Str} {sp sp' : Sp}
/-- where nothing is let out, anything may be promised of it -/
theorem FnOk.cx0 (F : FnOk P w K mg base CX0 k f fd ps sp) : FnOk P w K mg base CX k f fd ps sp := ⟨F.len, fun A outer s H args us vs Q E hr e0 hb r h => codeAny_mono (F.run A outer s H args us vs Q E hr e0 hb r h) fun r' s' z => by
  match r', z with
  | .error _, z => exact False.elim z
  | .ok (.ret u), z => exact z
  | .ok .next, z => exact z
  | .ok .brk, z => exact z
  | .ok .cont, z => exact z⟩
theorem FnOk.or (F : FnOk P w K mg base CX k f fd ps sp) (F' : FnOk P w K mg base CX k f fd ps sp') : FnOk P w K mg base CX k f fd ps (fun vs H Q E => sp vs H Q E ∨ sp' vs H Q E) :=
  ⟨fun vs H Q E h => h.elim (F.len vs H Q E) (F'.len vs H Q E), fun A outer s H args us vs Q E hr e0 hb r h => h.elim (F.run A outer s H args us vs Q E hr e0 hb r) (F'.run A outer s H args us vs Q E hr e0 hb r)⟩
end
/-- o.m() in a try -/
theorem pe_methT0 {X : Cx} {CX : CXT} {k : Nat} {f C : Addr} {fd : FuncData} {ps : List Str} {sp : Sp} {E : St → XK} {m : Str} {pos apos : Pos} {o : Expr} {ta : TE} {pl : Sem Bool} (he : PE X o ta) (c : Cls X.K C) (hm : Meth X.K C m f) (F : FnOk X.prog X.w X.K X.mg X.base CX k f fd ps sp) (hr : Room k X.A) (hb : Binds X.K fd ps []) (hx : ∀ σ, PassesAt CX X σ (E σ))
    (ht : eval (.Call (.Attribute o m apos) [] [] pos) X.env = (do
      let ov ← eval o X.env
      standAt apos.atName
      let (f, first) ← holding [ov] (getMethod ov m pl)
      callWith pos f first (backTo pos (starEach [] X.env)) (backToKw pos (keywordEach [] X.env))) := by rfl) :
    PE X (.Call (.Attribute o m apos) [] [] pos) (tMethT C m sp [] E ta tNil) := by
  refine ⟨fun pins s σ H Q I h => PySem.W.methodCall_KW (pl := pl) (thn (he.run pins s σ H _ I h) fun u s1 ⟨x, H1, J, rx, a, dx, fs, ex, ea, l, q⟩ => ?_) ht⟩
  subst ex
  obtain rfl : u = Value.ref a := rx
  exact getmeth_ok J ea c hm l (PySem.W.callWith_K0 (first := [.ref a]) J.kIn hm.kp (run_fnT (us := [.ref a]) (vs := [.ref a]) F hr hb .nil (hx σ) J (.cons rfl .nil) q))
end L2
namespace L2
open PySem PySem.Spec PyProof.Rows
theorem k_isX {X : Cx} {K : PySem.W.Frag} {a : Addr} {oe : Obj} {cls : Value} {d : Option Addr} (hK : X.K = K) (hp : (a, oe) ∈ X.pn) (hz : Zc cls d oe) (hf : ∃ vs, oe.data = .fields vs) : CallR X (.builtin "isinstance") (rIsX K a cls d) := by
  subst hK
  exact call_isX hp hz hf
theorem k_reprG {X : Cx} {K : PySem.W.Frag} (hK : X.K = K) (hA : X.A.guards = some []) (hu : X.A.units + 64 < cLine) : CallR X (.builtin "repr") (rRepr K) := by
  subst hK
  exact call_reprG hA hu
end L2

namespace L2
open PySem PySem.Spec PyProof.Rows
/-! ### f(e, .., k = v, ..) in a try or in a def that may raise: what may be let out, at the slots as they stand -/
section
variable {X : Cx} {CX : CXT} {k n : Nat} {f : Addr} {fd : FuncData} {ps ks : List Str} {sp : Sp} {E : St → XK} {x : Str} {p pos : Pos} {e : Expr} {es : List Expr} {kws : List Keyword} {t tk : TA} {g : List Value → List Value → List Value} {gV : List V → List V → List V}
theorem run_fnNT {pins : List (Addr × Obj)} {σ : St} {H : Hp} {s : Shared} {Q : VK} {us ws : List Value} {vs zs : List V} (F : FnOk X.prog X.w X.K X.mg X.base CX k f fd ps sp) (hr : Room k X.A) (hb : KBn X.K fd ps n ks g gV) (hx : PassesAt CX X σ (E σ))
    (I : Inv X pins σ H s) (r : Vals vs us) (rz : Vals zs ws) (l1 : vs.length = n) (l2 : zs.length = ks.length) (h : sp (gV vs zs) H Q (E σ)) : wpAny (model X.prog X.w) X.A (call (.ref f) us (ks.zip ws)) (EP X pins σ Q) X.xe s := by
  have r2 := hb.rel r rz
  refine wpAny_call (codeAny_mono (F.run X.A X.stack s H ⟨us, ks.zip ws⟩ (g us ws) (gV vs zs) Q (E σ) hr I.env0 (hb.to s us ws I.kIn (r.length.symm.trans l1) (rz.length.symm.trans l2)) r2 h) fun r s' hq => ?_)
  cases r with
  | error e => exact hx pins H s e s' I hq
  | ok fl =>
    cases fl with
    | ret u => exact I.after hq
    | next => exact False.elim hq
    | brk => exact False.elim hq
    | cont => exact False.elim hq
def tCallNT (n m : Nat) (sp : Sp) (gV : List V → List V → List V) (E : St → XK) (t tk : TA) : TE := fun σ H Q => t σ H fun vs H1 => tk σ H1 fun zs H2 => vs.length = n ∧ zs.length = m ∧ sp (gV vs zs) H2 Q (E σ)
theorem pe_callNT (F : FnOk X.prog X.w X.K X.mg X.base CX k f fd ps sp) (hr : Room k X.A) (hg : Gl X x) (hm : X.mg x = some (.ref f)) (hk : PySem.W.keepIn X.K (.ref f) = true) (hb : KBn X.K fd ps n ks g gV) (hx : ∀ σ, PassesAt CX X σ (E σ))
    (ha : PA X (e :: es) t) (hkw : PK X kws tk) (hall : (backToKw pos (keywordEach kws X.env)).all (·.1.isSome) = true := by rfl) (hks : (backToKw pos (keywordEach kws X.env)).filterMap (·.1) = ks := by rfl)
    (hdb : (x == ("__debug__" : Str)) = false := by decide) (he : starEach (e :: es) X.env = (false, eval e X.env) :: starEach es X.env := by rfl)
    (hpl : ((backTo pos (starEach (e :: es) X.env)).any (·.1) || (backToKw pos (keywordEach kws X.env)).any (·.1.isNone)) = false := by rfl) :
    PE X (.Call (.Name x p) (e :: es) kws pos) (tCallNT n ks.length sp gV E t tk) := by
  refine ⟨fun pins s σ H Q I h => ?_⟩
  refine wpAny_Call_Name_kw (ld_glob I hg hm ?_ hdb)
  refine PySem.W.callWith_KW (h₀ := X.base) I.ok.mod.kin hk hall (thn (ha.run pos pins s σ H _ I h) fun us s1 ⟨vs, H1, I1, r, q⟩ => ?_) hpl he
  refine thn (hkw.run pos pins s1 σ H1 _ I1 q) fun ws s2 ⟨zs, H2, I2, rz, l1, l2, q2⟩ => ⟨I2.kIn, ?_⟩
  rw [hks]
  exact run_fnNT F hr hb (hx σ) I2 r rz l1 l2 q2
theorem w_callN {n m : Nat} {sp : Sp} {gV : List V → List V → List V} {E : XK} {t tk : TA} {σ : L2.St} {H : Hp} {Q : VK} (q : t σ H fun vs H1 => tk σ H1 fun zs H2 => vs.length = n ∧ zs.length = m ∧ sp (gV vs zs) H2 Q E) : tCallN n m sp gV E t tk σ H Q := q
theorem w_callNT {n m : Nat} {sp : Sp} {gV : List V → List V → List V} {E : L2.St → XK} {t tk : TA} {σ : L2.St} {H : Hp} {Q : VK} (q : t σ H fun vs H1 => tk σ H1 fun zs H2 => vs.length = n ∧ zs.length = m ∧ sp (gV vs zs) H2 Q (E σ)) : tCallNT n m sp gV E t tk σ H Q := q
end
end L2

namespace L2
open PySem PySem.Spec PyProof.Rows
/-! ### data whose repr is short -/
structure ShW (d : PyData) (n w : Nat) : Prop where
  ok : d.showable = true
  nod : d.hasDict = false
  deep : d.depth ≤ n
  short : d.leavesShort 13 = true
  wt : d.bulk ≤ w
structure ShA (ds : List PyData) (n w : Nat) : Prop where
  ok : PyData.showableAll ds = true
  nod : PyData.hasDictAll ds = false
  deep : PyData.depthAll ds ≤ n
  short : PyData.leavesShortAll 13 ds = true
  wt : PyData.bulkAll ds ≤ w
theorem log_sm {n : Nat} (h : n < 10 ^ 12) : n.log2 < 1920 := by
  by_cases h0 : n = 0
  · rw [h0]; decide
  · have h2 : n < 2 ^ 40 := Nat.lt_of_lt_of_le h (by decide)
    exact Nat.lt_of_lt_of_le ((Nat.log2_lt h0).mpr h2) (by omega)
theorem ShW.int {i : Int} (h : i.natAbs < 10 ^ 12) : ShW (.int i) 0 0 :=
  ⟨by simp only [PyData.showable]; exact decide_eq_true (log_sm h), by simp only [PyData.hasDict], by simp only [PyData.depth]; exact Nat.le_refl _, by simp only [PyData.leavesShort]; exact decide_eq_true (PyData.shown_int_le h), by simp only [PyData.bulk]; exact Nat.le_refl _⟩
theorem ShA.nil {n w : Nat} : ShA [] n w := ⟨by simp only [PyData.showableAll], by simp only [PyData.hasDictAll], by simp only [PyData.depthAll]; exact Nat.zero_le _, by simp only [PyData.leavesShortAll], by simp only [PyData.bulkAll]; exact Nat.zero_le _⟩
theorem ShA.cons {d : PyData} {ds : List PyData} {n w w' : Nat} (h : ShW d n w) (h' : ShA ds n w') : ShA (d :: ds) n (w + 1 + w') :=
  ⟨by simp only [PyData.showableAll, h.ok, h'.ok, Bool.and_self], by simp only [PyData.hasDictAll, h.nod, h'.nod, Bool.or_self], by
    simp only [PyData.depthAll]
    exact Nat.max_le.mpr ⟨h.deep, h'.deep⟩, by simp only [PyData.leavesShortAll, h.short, h'.short, Bool.and_self], by
    simp only [PyData.bulkAll]
    have := h.wt
    have := h'.wt
    omega⟩
theorem ShA.lst {ds : List PyData} {n w : Nat} (h : ShA ds n w) : ShW (.list ds) (n + 1) w :=
  ⟨by simp only [PyData.showable, h.ok], by simp only [PyData.hasDict, h.nod], by
    simp only [PyData.depth]
    have := h.deep
    omega, by simp only [PyData.leavesShort, h.short], by simp only [PyData.bulk]; exact h.wt⟩
theorem ShA.tup {ds : List PyData} {n w : Nat} (h : ShA ds n w) : ShW (.tuple ds) (n + 1) w :=
  ⟨by simp only [PyData.showable, h.ok], by simp only [PyData.hasDict, h.nod], by
    simp only [PyData.depth]
    have := h.deep
    omega, by simp only [PyData.leavesShort, h.short], by simp only [PyData.bulk]; exact h.wt⟩
theorem ShA.map {α : Type} {f : α → PyData} {n w : Nat} : ∀ {ds : List α}, (∀ d ∈ ds, ShW (f d) n w) → ShA (ds.map f) n ((w + 1) * ds.length)
  | [], _ => .nil
  | d :: r, h => by
    have := ShA.cons (h d List.mem_cons_self) (ShA.map (ds := r) fun x hx => h x (List.mem_cons_of_mem _ hx))
    rw [List.map_cons, List.length_cons, Nat.mul_add, Nat.mul_one, Nat.add_comm ((w + 1) * r.length)]
    exact this
theorem ShW.up {d : PyData} {n w n' w' : Nat} (h : ShW d n w) (hn : n ≤ n') (hw : w ≤ w') : ShW d n' w' := ⟨h.ok, h.nod, Nat.le_trans h.deep hn, h.short, Nat.le_trans h.wt hw⟩
theorem w_repr {K : PySem.W.Frag} {H : Hp} {Q : VK} {x : V} {d : PyData} {n w : Nat} (hd : Dp K H x d) (hs : ShW d n w) (hn : n ≤ 30) (hw : w ≤ 600) (q : Q (.str d.shown) H) : rRepr K [x] H Q := by
  refine ⟨x, d, rfl, hd, hs.ok, hs.nod, Nat.le_trans hs.deep hn, .inl ?_, q⟩
  have h := PyData.shown_le_bulk 13 (by omega) d hs.short
  have h2 : (13 + 2) * d.bulk ≤ 15 * 600 := Nat.mul_le_mul (by omega) (Nat.le_trans hs.wt hw)
  omega
theorem w_neSS {K : PySem.W.Frag} {H : Hp} {Q : VK} {s : Str} (q : Q (.bl false) H) : rNeG K (.str s) (.str s) H Q := .inl ⟨rfl, by
  rw [decide_eq_true rfl]; exact q⟩
theorem w_eqSS {K : PySem.W.Frag} {H : Hp} {Q : VK} {s : Str} (q : Q (.bl true) H) : rEqG K (.str s) (.str s) H Q := .inl ⟨rfl, by
  rw [decide_eq_true rfl]; exact q⟩
theorem w_eqSD {K : PySem.W.Frag} {H : Hp} {Q : VK} {s t : Str} (h : s ≠ t) (q : Q (.bl false) H) : rEqG K (.str s) (.str t) H Q := .inl ⟨rfl, by
  rw [decide_eq_false (fun e => h (V.str.inj e))]; exact q⟩
theorem w_neSD {K : PySem.W.Frag} {H : Hp} {Q : VK} {s t : Str} (h : s ≠ t) (q : Q (.bl true) H) : rNeG K (.str s) (.str t) H Q := .inl ⟨rfl, by
  rw [decide_eq_false (fun e => h (V.str.inj e))]; exact q⟩
theorem w_neBB {K : PySem.W.Frag} {H : Hp} {Q : VK} {b : Bool} (q : Q (.bl false) H) : rNeG K (.bl b) (.bl b) H Q := .inl ⟨rfl, by
  rw [decide_eq_true rfl]; exact q⟩
/-! ### new objects, the heap told anew -/
theorem w_newO {H : Hp} {o : HO} {F : Addr → Hp → Prop} (q : ∀ p H', H p = none → Same H H' → H' p = some o → F p H') : ∀ p, H p = none → F p (upd H p o) := fun p hp => q p _ hp (Same.new hp) upd_same
theorem sqU {K : PySem.W.Frag} {H : Hp} {q p : Addr} {xs ys : List V} {o : HO} (hq : H q = some (.lst xs)) (h : Sq false K H p ys) : Sq false K (upd H q o) p ys := by
  obtain ⟨_, e, h⟩ := RTup.upd (R := RRw false K) RRw.tup RRw.mono (o := o) (NTup.lst hq) ⟨p, rfl, h⟩
  cases e
  exact h
end L2
namespace L2
open PySem PySem.Spec PyProof.Rows
section
variable {K : PySem.W.Frag} {σ : St} {H : Hp} {Q : VK}
/-- a new object, n long -/
def NewO (Q : VK) (H : Hp) (n : Nat) (o : HO) : Prop := n ≤ sizeLine ∧ ∀ p, H p = none → Q (.ref p) (upd H p o)
theorem w_new {n : Nat} {o : HO} (hn : n ≤ 1000000) (q : ∀ p H', H p = none → Same H H' → H' p = some o → Q (.ref p) H') : NewO Q H n o :=
  ⟨by rw [sizeLine_eq]; omega, fun p hp => q p _ hp (Same.new hp) upd_same⟩
theorem w_tupN {ta : TA} (q : ta σ H fun xs H1 => NewO Q H1 xs.length (.tup xs)) : tTup ta σ H Q := q
theorem w_lstN {ta : TA} (q : ta σ H fun xs H1 => NewO Q H1 xs.length (.lst xs)) : tLst ta σ H Q := q
theorem w_listN {p : Addr} {ys : List V} {b : Bool} (h : Sq b K H p ys) (q : ∀ l H', H l = none → Same H H' → H' l = some (.lst ys) → Q (.ref l) H') : rListS K [.ref p] H Q := w_listS h fun l hl => q l _ hl (Same.new hl) upd_same
theorem w_tupNL {p : Addr} {ys : List V} (h : Sq true K H p ys) (q : ∀ l H', H l = none → Same H H' → H' l = some (.tup ys) → Q (.ref l) H') : rTupS K [.ref p] H Q := w_tupL h fun l hl => q l _ hl (Same.new hl) upd_same
/-- what is let out: an error with this field -/
def RaiseQ (E : XK) (H : Hp) (C : Addr) (f : Str) (v : V) : Prop := ∀ d H', H d = none → Same H H' → H' d = some (.xd [(f, v)]) → E (.ref C) (some d) H'
theorem w_iff {A B C : Prop} {b : Bool} (h : b = true ↔ C) (h1 : C → A) (h2 : ¬ C → B) : if b = true then A else B := by
  cases b with
  | true => exact h1 (h.mp rfl)
  | false => exact h2 fun c => nomatch h.mpr c
/-- all old objects but those at a and b stand -/
def Fr2 (a b : Addr) (H H' : Hp) : Prop := ∀ c o, c ≠ a → c ≠ b → H c = some o → H' c = some o
theorem Fr2.refl (a b : Addr) (H : Hp) : Fr2 a b H H := fun _ _ _ _ e => e
theorem Fr2.trans {a b : Addr} {H H' H'' : Hp} (f : Fr2 a b H H') (g : Fr2 a b H' H'') : Fr2 a b H H'' := fun c o h1 h2 e => g c o h1 h2 (f c o h1 h2 e)
theorem Fr2.same {a b : Addr} {H H' : Hp} (s : Same H H') : Fr2 a b H H' := fun c o _ _ e => s c o e
theorem Fr2.left {a b : Addr} {H H' : Hp} (f : Fr a H H') : Fr2 a b H H' := fun c o h _ e => f c o h e
theorem Fr2.right {a b : Addr} {H H' : Hp} (f : Fr b H H') : Fr2 a b H H' := fun c o _ h e => f c o h e
theorem Fr2.mut {a b p : Addr} {H H' : Hp} {o : HO} (f : Fr2 a b H H') (hp : H p = none) : Fr2 a b H (upd H' p o) := fun c u h1 h2 e =>
  (upd_ne (fun z => by rw [z, hp] at e; cases e)).trans (f c u h1 h2 e)
theorem Fr2.hide {a b : Addr} {H H' : Hp} (f : Fr2 a b H H') : Same (hide a (hide b H)) H' := fun c o e => by
  by_cases h1 : c = a
  · rw [h1, hide_at] at e; cases e
  · rw [hide_ne h1] at e
    by_cases h2 : c = b
    · rw [h2, hide_at] at e; cases e
    · rw [hide_ne h2] at e
      exact f c o h1 h2 e
theorem NTup.hide {a b : Addr} {H : Hp} (h : NTup (H a)) : NTup (L2.hide b H a) := by
  by_cases e : a = b
  · rw [e, hide_at]; trivial
  · rw [hide_ne e]; exact h
theorem Fr2.rep {α : Type} {R : Rep α} (hm : RMono R) (ht : RTup R) {a b : Addr} {H H' : Hp} {v : V} {x : α} (f : Fr2 a b H H') (ha : NTup (H a)) (hb : NTup (H b)) (h : R H v x) : R H' v x :=
  hm _ _ _ _ f.hide (ht _ _ _ _ (NTup.hide ha) (ht _ _ _ _ hb h))
theorem Fr2.sqT {a b p : Addr} {H H' : Hp} {xs : List V} (f : Fr2 a b H H') (ha : NTup (H a)) (hb : NTup (H b)) (h : Sq false K H p xs) : Sq false K H' p xs := by
  obtain ⟨_, e, h⟩ := f.rep (R := RRw false K) RRw.mono RRw.tup ha hb ⟨p, rfl, h⟩
  cases e
  exact h
end
end L2

namespace L2
open PySem PySem.Spec PyProof.Rows
section
variable {K : PySem.W.Frag} {σ : St} {H : Hp} {te : TE} {vs : List Nat} {Q : VK}
/-- a comprehension over a range that gives new lists -/
theorem c_freshR {n : Int} {j : Nat} (rows : List (List V)) (h1 : -(2 ^ 62) ≤ n) (h2 : n < 16000000) (hl : rows.length = n.toNat) (hw : ∀ x : V, wipe ((wipe σ vs).set j (some x)) vs = wipe σ vs)
    (hs : ∀ (i : Nat) r H1 (N : VK), (i : Int) < n → rows[i]? = some r → Same H H1 → (∀ p H2, H1 p = none → Same H1 H2 → H2 p = some (.lst r) → N (.ref p) H2) → te ((wipe σ vs).set j (some (.int (i : Int)))) H1 N)
    (k : ∀ D H', Same H H' → FRows H H' D rows → Q (.ref D) H') :
    ∃ j' : Int, [V.int n] = [.int j'] ∧ -(2 ^ 62) ≤ j' ∧ j' < 2 ^ 62 ∧ CompOk (Itr 0 j'.toNat) (gName j) tYes te vs σ H Q := by
  refine l_compGR h1 h2 (fun D i acc H' => Same H H' ∧ FRows H H' D (rows.take i)) hw (fun D hD => ⟨Same.new hD, FRows.nil hD⟩) (fun i H1 D acc NT NF hi hD st e1 hal hT hF => ?_) (fun D H' ys hD st e hly => ?_)
  · obtain ⟨s1, f1⟩ := st
    have hri : rows[i]? = some (rows[i]'(by omega)) := List.getElem?_eq_getElem (by omega)
    show te _ H1 NT
    refine hs i _ H1 NT hi hri s1 fun p H2 hp s2 ep => ?_
    obtain ⟨e2, f2⟩ := f1.next s1 e1 hp s2 ep
    refine hT _ H2 e2 ⟨Same.mut (s1.trans s2) hD, ?_⟩
    rw [List.take_add_one, hri]
    exact f2
  · rw [← hl, List.take_length] at st
    exact k D H' st.1 st.2
end
end L2

namespace L2
open PySem PySem.Spec PyProof.Rows
/-! ### isinstance with several built-in types -/
section
variable {X : Cx} {K : PySem.W.Frag} {H : Hp} {x : V} {Q : VK}
theorem k_isiT (h : X.K = K) : CallR X (.builtin "isinstance") (rIsiT K) := h ▸ call_isiT
theorem w_isi2 {tn c1 c2 : String} {tp : Addr} {b1 b2 b : Bool} (hb : (b1 || b2) = b) (hT : H tp = some (.tup [.ty c1, .ty c2])) (ht : TyX K H x (.type tn)) (h1 : kitB tn c1 = some b1) (h2 : kitB tn c2 = some b2) (q : Q (.bl b) H) : rIsiT K [x, .ref tp] H Q := by
  subst hb
  refine ⟨x, tp, _, _, [.type c1, .type c2], _, rfl, hT, .cons (.ty c1) (.cons (.ty c2) .nil), ht, ?_, q⟩
  unfold PySem.W.kitAny
  rw [kit_ty h1]
  cases b1 with
  | true => rfl
  | false =>
    show PySem.W.kitAny K _ [.type c2] = _
    unfold PySem.W.kitAny
    rw [kit_ty h2]
    cases b2 <;> rfl
end
end L2

namespace My
open PySem PySem.Spec PyProof.Rows L2
/-! ### sums of the first ones -/
def pre (ns : List Int) (j : Nat) : Int := (ns.take j).sum
theorem pre_zero (ns : List Int) : pre ns 0 = 0 := by simp [pre]
theorem pre_all (ns : List Int) : pre ns ns.length = ns.sum := by simp [pre]
theorem pre_succ {ns : List Int} {j : Nat} (h : j < ns.length) : pre ns (j + 1) = pre ns j + nth ns (j : Nat) := by
  have e : ns[j]? = some (nth ns (j : Nat)) := by
    rw [nth_nat, List.getD_eq_getElem?_getD, List.getElem?_eq_getElem h]
    rfl
  exact sum_take e
theorem pre_le {ns : List Int} (hn : ∀ x ∈ ns, (0 : Int) ≤ x) {i j : Nat} (h : i ≤ j) (hj : j ≤ ns.length) : pre ns i ≤ pre ns j := by
  induction j with
  | zero =>
    have : i = 0 := by omega
    subst this
    exact Int.le_refl _
  | succ j ih =>
    by_cases e : i = j + 1
    · subst e; exact Int.le_refl _
    · have h1 := ih (by omega) (by omega)
      have h2 := pre_succ (ns := ns) (j := j) (by omega)
      have h3 := hn _ (nth_mem (ns := ns) (i := (j : Nat)) (by omega) (by omega))
      omega

/-! ### nets in plain lists -/
def dot (us vs : List Int) : Int := (List.zipWith (· * ·) us vs).sum
def vtimes (p : Int) (M : List (List Int)) (v : List Int) : List Int := M.map fun r => dot r v % p
def vplus (p : Int) (u v : List Int) : List Int := List.zipWith (fun a b => (a + b) % p) u v
def looked (p : Int) (q : List Int) (prs : List (List Int × List Int)) (f : List Int) : List Int := prs.foldl (fun f kv => vplus p f (kv.2.map fun n => dot q kv.1 * n)) f
def zeros (q : List Int) : List Int := q.map fun _ => 0
abbrev Mat := List (List Int)
abbrev PairD := List Int × List Int
abbrev RowD := List PairD × List Int
structure NetD where
  p : Int
  emb : Mat
  sh : List Int
  lay : List (List Mat)
  out : Mat
def mt (L : List Mat) (i : Nat) : Mat := L.getD i []
def pairOf (p : Int) (L : List Mat) (x : List Int) : PairD := (vtimes p (mt L 1) x, vtimes p (mt L 2) x)
def midOf (p : Int) (L : List Mat) (prs : List PairD) (x : List Int) : List Int := vplus p x (looked p (vtimes p (mt L 0) x) (prs ++ [pairOf p L x]) (zeros (vtimes p (mt L 0) x)))
def sqOf (p : Int) (L : List Mat) (x : List Int) : List Int := (vtimes p (mt L 3) x).map fun a => a * a
def nextOf (p : Int) (L : List Mat) (prs : List PairD) (x : List Int) : List Int := vplus p (midOf p L prs x) (vtimes p (mt L 4) (sqOf p L (midOf p L prs x)))
def prsAt (rows : List RowD) (i : Nat) : List PairD := rows.map fun r => r.1.getD i ([], [])
def rowSt (nd : NetD) (rows : List RowD) (x0 : List Int) : Nat → List PairD × List Int
  | 0 => ([], x0)
  | i + 1 => ((rowSt nd rows x0 i).1 ++ [pairOf nd.p (nd.lay.getD i []) (rowSt nd rows x0 i).2], nextOf nd.p (nd.lay.getD i []) (prsAt rows i) (rowSt nd rows x0 i).2)
def startX (nd : NetD) (rows : List RowD) (l : Nat) : List Int := vplus nd.p (nd.emb.getD l []) (nd.sh.map fun n => (rows.length : Int) * n)
def lastSt (nd : NetD) (rows : List RowD) (l : Nat) : List PairD × List Int := rowSt nd rows (startX nd rows l) nd.lay.length
def rowD (nd : NetD) (rows : List RowD) (l : Nat) : RowD := ((lastSt nd rows l).1, nd.out.map fun v => 1 + dot v (lastSt nd rows l).2 % nd.p)
def rowsD (nd : NetD) : List Nat → List RowD → List RowD
  | [], acc => acc
  | l :: r, acc => rowsD nd r (acc ++ [rowD nd acc l])

/-- numbers from 0 to p - 1 -/
def Sml (p : Int) (ns : List Int) : Prop := ∀ x ∈ ns, 0 ≤ x ∧ x < p
/-- so small that products are reckoned -/
def Bd (ns : List Int) : Prop := ∀ x ∈ ns, -(2 ^ 64) < x ∧ x < 2 ^ 64
theorem Sml.bd {p : Int} {ns : List Int} (hp : p ≤ 97) (h : Sml p ns) : Bd ns := fun x hx => by have := h x hx; omega
def MatOk (p : Int) (w : Nat) (M : Mat) : Prop := ∀ r ∈ M, r.length = w ∧ Sml p r
structure NetOk (nd : NetD) (w : Nat) : Prop where
  p2 : 2 ≤ nd.p
  p97 : nd.p ≤ 97
  w4 : w ≤ 4
  emb : MatOk nd.p w nd.emb
  sh : nd.sh.length = w ∧ Sml nd.p nd.sh
  lay : ∀ L ∈ nd.lay, L.length = 5 ∧ ∀ M ∈ L, M.length = w ∧ MatOk nd.p w M
  out : MatOk nd.p w nd.out
  e12 : nd.emb.length ≤ 12
  o12 : nd.out.length ≤ 12
  l3 : nd.lay.length ≤ 3
def PairOk (p : Int) (w : Nat) (q : PairD) : Prop := (q.1.length = w ∧ Sml p q.1) ∧ q.2.length = w ∧ Sml p q.2
def RowOk (nd : NetD) (w : Nat) (r : RowD) : Prop := r.1.length = nd.lay.length ∧ (∀ q ∈ r.1, PairOk nd.p w q) ∧ r.2.length = nd.out.length
theorem vtimes_len (p : Int) (M : Mat) (v : List Int) : (vtimes p M v).length = M.length := List.length_map ..
theorem vplus_len {p : Int} {u v : List Int} (h : u.length = v.length) : (vplus p u v).length = u.length := by
  unfold vplus; rw [List.length_zipWith, h, Nat.min_self]
theorem vtimes_sml {p : Int} (hp : 0 < p) (M : Mat) (v : List Int) : Sml p (vtimes p M v) := fun x hx => by
  obtain ⟨r, _, e⟩ := List.mem_map.mp hx
  subst e
  exact ⟨Int.emod_nonneg _ (by omega), Int.emod_lt_of_pos _ hp⟩
theorem vplus_sml {p : Int} (hp : 0 < p) : ∀ (u v : List Int), Sml p (vplus p u v)
  | [], _ => fun x hx => by simp [vplus] at hx
  | _ :: _, [] => fun x hx => by simp [vplus] at hx
  | a :: u, b :: v => fun x hx => by
    have hx : x ∈ ((a + b) % p) :: vplus p u v := hx
    rcases List.mem_cons.mp hx with e | e
    · subst e; exact ⟨Int.emod_nonneg _ (by omega), Int.emod_lt_of_pos _ hp⟩
    · exact vplus_sml hp u v x e
theorem looked_len {p : Int} {q : List Int} : ∀ {prs : List PairD} {f : List Int}, (∀ kv ∈ prs, kv.2.length = f.length) → (looked p q prs f).length = f.length
  | [], f, _ => rfl
  | kv :: r, f, h => by
    have h1 := h kv (List.mem_cons_self ..)
    have e : (vplus p f (kv.2.map fun n => dot q kv.1 * n)).length = f.length := vplus_len (by rw [List.length_map, h1])
    show (looked p q r (vplus p f (kv.2.map fun n => dot q kv.1 * n))).length = f.length
    rw [looked_len (fun kv' hk => by rw [e]; exact h kv' (List.mem_cons_of_mem _ hk)), e]
theorem zeros_len (q : List Int) : (zeros q).length = q.length := List.length_map ..
theorem nth_zip {f : Int → Int → Int} {u v : List Int} {i : Nat} (h1 : i < u.length) (h2 : i < v.length) : nth (List.zipWith f u v) (i : Nat) = f (nth u (i : Nat)) (nth v (i : Nat)) := by
  simp only [nth_nat, List.getD_eq_getElem?_getD, List.getElem?_zipWith, List.getElem?_eq_getElem h1, List.getElem?_eq_getElem h2, Option.getD_some]
theorem nth_map {f : Int → Int} {u : List Int} {i : Nat} (h1 : i < u.length) : nth (u.map f) (i : Nat) = f (nth u (i : Nat)) := by
  simp only [nth_nat, List.getD_eq_getElem?_getD, List.getElem?_map, List.getElem?_eq_getElem h1, Option.map_some, Option.getD_some]
theorem nth_mapG {α : Type} {f : α → Int} {u : List α} {i : Nat} {x : α} (h1 : u[i]? = some x) : nth (u.map f) (i : Nat) = f x := by
  simp only [nth_nat, List.getD_eq_getElem?_getD, List.getElem?_map, h1, Option.map_some, Option.getD_some]
theorem nth_range {f : Nat → Int} {n i : Nat} (h1 : i < n) : nth ((List.range n).map f) (i : Nat) = f i := by
  simp only [nth_nat, List.getD_eq_getElem?_getD, List.getElem?_map, List.getElem?_range h1, Option.map_some, Option.getD_some]
theorem nth_ext {u v : List Int} (hl : u.length = v.length) (h : ∀ i : Nat, i < u.length → nth u (i : Nat) = nth v (i : Nat)) : u = v := by
  refine List.ext_getElem hl fun i h1 h2 => ?_
  have := h i h1
  simpa only [nth_nat, List.getD_eq_getElem?_getD, List.getElem?_eq_getElem h1, List.getElem?_eq_getElem h2, Option.getD_some] using this
theorem pairOf_ok {p : Int} {w : Nat} {L : List Mat} {x : List Int} (hp : 0 < p) (hL : L.length = 5 ∧ ∀ M ∈ L, M.length = w ∧ MatOk p w M) : PairOk p w (pairOf p L x) := by
  have hm : ∀ i : Nat, i < 5 → (mt L i).length = w := fun i hi => by
    unfold mt
    rw [List.getD_eq_getElem?_getD, List.getElem?_eq_getElem (by omega)]
    exact (hL.2 _ (List.getElem_mem _)).1
  exact ⟨⟨by show (vtimes p (mt L 1) x).length = w; rw [vtimes_len]; exact hm 1 (by omega), vtimes_sml hp _ _⟩, by show (vtimes p (mt L 2) x).length = w; rw [vtimes_len]; exact hm 2 (by omega), vtimes_sml hp _ _⟩
theorem mt_ok {p : Int} {w : Nat} {L : List Mat} (hL : L.length = 5 ∧ ∀ M ∈ L, M.length = w ∧ MatOk p w M) {i : Nat} (hi : i < 5) : L[i]? = some (mt L i) ∧ (mt L i).length = w ∧ MatOk p w (mt L i) := by
  have e : L[i]? = some (mt L i) := by
    unfold mt
    rw [List.getD_eq_getElem?_getD, List.getElem?_eq_getElem (by omega)]
    rfl
  exact ⟨e, hL.2 _ (List.mem_of_getElem? e)⟩
theorem midOf_len {p : Int} {w : Nat} {L : List Mat} {prs : List PairD} {x : List Int} (hp : 0 < p) (hL : L.length = 5 ∧ ∀ M ∈ L, M.length = w ∧ MatOk p w M) (hprs : ∀ q ∈ prs, PairOk p w q) (hx : x.length = w) : (midOf p L prs x).length = w := by
  have h0 := (mt_ok hL (i := 0) (by omega)).2.1
  have hq : (looked p (vtimes p (mt L 0) x) (prs ++ [pairOf p L x]) (zeros (vtimes p (mt L 0) x))).length = w := by
    rw [looked_len, zeros_len, vtimes_len, h0]
    intro kv hk
    rw [zeros_len, vtimes_len, h0]
    rcases List.mem_append.mp hk with h | h
    · exact (hprs kv h).2.1
    · rw [List.mem_singleton.mp h]; exact (pairOf_ok hp hL).2.1
  unfold midOf
  rw [vplus_len (by rw [hx, hq]), hx]
theorem nextOf_len {p : Int} {w : Nat} {L : List Mat} {prs : List PairD} {x : List Int} (hp : 0 < p) (hL : L.length = 5 ∧ ∀ M ∈ L, M.length = w ∧ MatOk p w M) (hprs : ∀ q ∈ prs, PairOk p w q) (hx : x.length = w) : (nextOf p L prs x).length = w := by
  have hm := midOf_len hp hL hprs hx
  unfold nextOf
  rw [vplus_len (by rw [hm, vtimes_len, (mt_ok hL (i := 4) (by omega)).2.1]), hm]
theorem nextOf_sml {p : Int} {L : List Mat} {prs : List PairD} {x : List Int} (hp : 0 < p) : Sml p (nextOf p L prs x) := vplus_sml hp _ _
theorem prsAt_ok {nd : NetD} {w : Nat} {rows : List RowD} (hr : ∀ r ∈ rows, RowOk nd w r) {i : Nat} (hi : i < nd.lay.length) : ∀ q ∈ prsAt rows i, PairOk nd.p w q := fun q hq => by
  obtain ⟨r, hr1, e⟩ := List.mem_map.mp hq
  obtain ⟨h1, h2, _⟩ := hr r hr1
  rw [List.getD_eq_getElem?_getD, List.getElem?_eq_getElem (by omega)] at e
  subst e
  exact h2 _ (List.getElem_mem _)
theorem rowSt_ok {nd : NetD} {w : Nat} (ok : NetOk nd w) {rows : List RowD} (hr : ∀ r ∈ rows, RowOk nd w r) {x0 : List Int} (h0 : x0.length = w ∧ Sml nd.p x0) : ∀ i, i ≤ nd.lay.length →
    (rowSt nd rows x0 i).1.length = i ∧ (∀ q ∈ (rowSt nd rows x0 i).1, PairOk nd.p w q) ∧ (rowSt nd rows x0 i).2.length = w ∧ Sml nd.p (rowSt nd rows x0 i).2
  | 0, _ => ⟨rfl, List.forall_mem_nil _, h0.1, h0.2⟩
  | i + 1, hi => by
    obtain ⟨h1, h2, h3, h4⟩ := rowSt_ok ok hr h0 i (by omega)
    have hp : 0 < nd.p := by have := ok.p2; omega
    have hL := ok.lay (nd.lay.getD i []) (by
      rw [List.getD_eq_getElem?_getD, List.getElem?_eq_getElem (by omega)]
      exact List.getElem_mem _)
    refine ⟨by show (_ ++ [_]).length = _; rw [List.length_append, h1]; rfl, fun q hq => ?_, nextOf_len hp hL (prsAt_ok hr (by omega)) h3, nextOf_sml hp⟩
    rcases List.mem_append.mp hq with h | h
    · exact h2 q h
    · rw [List.mem_singleton.mp h]; exact pairOf_ok hp hL
theorem startX_ok {nd : NetD} {w : Nat} (ok : NetOk nd w) {rows : List RowD} {l : Nat} (hl : l < nd.emb.length) : (startX nd rows l).length = w ∧ Sml nd.p (startX nd rows l) := by
  have he : (nd.emb.getD l []).length = w := by
    rw [List.getD_eq_getElem?_getD, List.getElem?_eq_getElem hl]
    exact (ok.emb _ (List.getElem_mem _)).1
  refine ⟨?_, vplus_sml (by have := ok.p2; omega) _ _⟩
  unfold startX
  rw [vplus_len (by rw [he, List.length_map, ok.sh.1]), he]
theorem rowD_ok {nd : NetD} {w : Nat} (ok : NetOk nd w) {rows : List RowD} (hr : ∀ r ∈ rows, RowOk nd w r) {l : Nat} (hl : l < nd.emb.length) : RowOk nd w (rowD nd rows l) := by
  obtain ⟨h1, h2, _, _⟩ := rowSt_ok ok hr (startX_ok ok (rows := rows) hl) nd.lay.length (Nat.le_refl _)
  exact ⟨h1, h2, List.length_map ..⟩

/-! ### the same, as the law reckons it -/
def ldot (p : Int) (a b : List Int) : Int := ((List.range a.length).map fun k => nth a (k : Nat) * nth b (k : Nat)).sum % p
theorem dot_range {a b : List Int} (h : a.length = b.length) : ((List.range a.length).map fun k => nth a ((k : Nat) : Int) * nth b ((k : Nat) : Int)) = List.zipWith (· * ·) a b := by
  refine nth_ext (by rw [List.length_map, List.length_range, List.length_zipWith, h, Nat.min_self]) fun i hi => ?_
  rw [List.length_map, List.length_range] at hi
  rw [nth_range hi, nth_zip hi (by omega)]
theorem ldot_eq {p : Int} {a b : List Int} (h : a.length = b.length) : ldot p a b = dot a b % p := by
  unfold ldot dot
  rw [dot_range h]
def lstep (p : Int) (asked : List Int) (x : List Int) (o : PairD) : List Int := (List.range x.length).map fun k => (nth x (k : Nat) + ldot p asked o.1 * nth o.2 (k : Nat)) % p
theorem lstep_eq {p : Int} {asked x f : List Int} {o : PairD} (hx : x.length = f.length) (ho : o.2.length = f.length) (ha : asked.length = o.1.length) : lstep p asked (vplus p x f) o = vplus p x (vplus p f (o.2.map fun n => dot asked o.1 * n)) := by
  have h1 : (vplus p x f).length = f.length := by rw [vplus_len hx, hx]
  have h2 : (vplus p f (o.2.map fun n => dot asked o.1 * n)).length = f.length := vplus_len (by rw [List.length_map, ho])
  refine nth_ext (by unfold lstep; rw [List.length_map, List.length_range, h1, vplus_len (by rw [h2, hx]), hx]) fun i hi => ?_
  unfold lstep at hi ⊢
  rw [List.length_map, List.length_range, h1] at hi
  rw [nth_range (by rw [h1]; exact hi), ldot_eq ha]
  unfold vplus at h2 ⊢
  rw [nth_zip (by omega) hi, nth_zip (by omega) (by omega), nth_zip hi (by rw [List.length_map]; omega), nth_map (by omega)]
  generalize nth x (i : Nat) = a
  generalize nth f (i : Nat) = b
  generalize nth o.2 (i : Nat) = c
  generalize dot asked o.1 = d
  rw [Int.emod_add_emod, Int.add_emod_emod, ← Int.add_assoc, Int.add_emod (a + b) (d % p * c), Int.add_emod (a + b) (d * c), show d % p * c % p = d * c % p by rw [Int.mul_emod (d % p) c, Int.emod_emod, ← Int.mul_emod]]
theorem latt_eq {p : Int} {asked x : List Int} : ∀ {prs : List PairD} {f : List Int}, x.length = f.length → (∀ o ∈ prs, o.2.length = f.length ∧ asked.length = o.1.length) → prs.foldl (lstep p asked) (vplus p x f) = vplus p x (looked p asked prs f)
  | [], f, _, _ => rfl
  | o :: r, f, hx, h => by
    obtain ⟨h1, h2⟩ := h o (List.mem_cons_self ..)
    have e : (vplus p f (o.2.map fun n => dot asked o.1 * n)).length = f.length := vplus_len (by rw [List.length_map, h1])
    show r.foldl (lstep p asked) (lstep p asked (vplus p x f) o) = vplus p x (looked p asked r (vplus p f (o.2.map fun n => dot asked o.1 * n)))
    rw [lstep_eq hx h1 h2]
    exact latt_eq (by rw [e]; exact hx) fun o' ho => by rw [e]; exact h o' (List.mem_cons_of_mem _ ho)
theorem vplus_zero {p : Int} {x z : List Int} (hx : Sml p x) (hz : z.length = x.length) (h0 : ∀ i : Nat, i < z.length → nth z (i : Nat) = 0) : vplus p x z = x := by
  refine nth_ext (vplus_len hz.symm) fun i hi => ?_
  rw [vplus_len hz.symm] at hi
  unfold vplus
  rw [nth_zip hi (by omega), h0 i (by omega), Int.add_zero]
  have := hx _ (nth_mem (ns := x) (i := ((i : Nat) : Int)) (by omega) (by omega))
  exact Int.emod_eq_of_lt this.1 this.2
theorem mid_law {p : Int} {w : Nat} {L : List Mat} {prs : List PairD} {x : List Int} (hp : 0 < p) (hL : L.length = 5 ∧ ∀ M ∈ L, M.length = w ∧ MatOk p w M) (hprs : ∀ q ∈ prs, PairOk p w q) (hx : x.length = w ∧ Sml p x) :
    (prs ++ [pairOf p L x]).foldl (lstep p (vtimes p (mt L 0) x)) x = midOf p L prs x := by
  have h0 := (mt_ok hL (i := 0) (by omega)).2.1
  have hz : (zeros (vtimes p (mt L 0) x)).length = x.length := by rw [zeros_len, vtimes_len, h0, hx.1]
  have e0 : vplus p x (zeros (vtimes p (mt L 0) x)) = x := vplus_zero hx.2 hz fun i hi => by
    unfold zeros at hi ⊢
    rw [nth_map (by rw [List.length_map] at hi; exact hi)]
  have key := latt_eq (p := p) (asked := vtimes p (mt L 0) x) (x := x) (prs := prs ++ [pairOf p L x]) (f := zeros (vtimes p (mt L 0) x)) hz.symm fun o ho => by
    rw [hz, hx.1, vtimes_len, h0]
    rcases List.mem_append.mp ho with h | h
    · exact ⟨(hprs o h).2.1, (hprs o h).1.1.symm⟩
    · rw [List.mem_singleton.mp h]; exact ⟨(pairOf_ok hp hL).2.1, (pairOf_ok hp hL).1.1.symm⟩
  rw [e0] at key
  exact key
theorem vplus_range {p : Int} {u v : List Int} (h : u.length = v.length) : ((List.range u.length).map fun k => (nth u ((k : Nat) : Int) + nth v ((k : Nat) : Int)) % p) = vplus p u v := by
  refine nth_ext (by rw [List.length_map, List.length_range, vplus_len h]) fun i hi => ?_
  rw [List.length_map, List.length_range] at hi
  rw [nth_range hi]
  unfold vplus
  rw [nth_zip hi (by omega)]

/-! ### one step of a reading; the closers -/
local macro_rules | `(tactic| walk_at "same") => `(tactic| first
  | assumption
  | exact Same.refl _
  | (refine Same.trans ?_ (Same.new (by assumption)); walk_at "same")
  | (refine Same.mut ?_ (by assumption); walk_at "same")
  | (refine Same.trans (H1 := _) ?_ (by assumption); walk_at "same"))
local macro_rules | `(tactic| walk_at "at") => `(tactic| first
  | assumption
  | exact upd_same
  | (refine Same.at ?_ (by assumption); walk_at "same"))
local macro_rules | `(tactic| walk_at "sq") => `(tactic| first
  | assumption
  | exact Sq.lst (by walk_at "at")
  | exact Sq.tup (by walk_at "at")
  | (refine Same.sq ?_ (by assumption); walk_at "same"))
local macro_rules | `(tactic| walk_at "lk") => `(tactic| first
  | exact lk_here
  | (refine lk_next (by decide +kernel) ?_; walk_at "lk")
  | exact rfl)
local macro_rules | `(tactic| walk_at "pf") => `(tactic| first
  | exact pf_here
  | (apply pf_next (by decide +kernel); walk_at "pf")
  | exact pf_nil)
local macro_rules | `(tactic| walk_at "num") => `(tactic| first
  | omega
  | assumption
  | (unfold CMul; omega)
  | (unfold CDiv; omega)
  | (unfold CPow; refine ⟨?_, ?_, ?_⟩ <;> first | omega | decide)
  | decide
  | (simp only [List.length_append, List.length_cons, List.length_nil, List.length_map, List.length_range] at *; omega))
local macro_rules | `(tactic| walk_at "vv") => `(tactic| first
  | exact tape_cells
  | exact tape_at
  | exact tape_great
  | exact tape_left
  | exact tape_seed
  | exact tape_turn
  | exact val_pos
  | (refine (val_neg (by decide +kernel)).trans ?_; walk_at "vv"))
local macro_rules | `(tactic| walk_at "pp") => `(tactic| first
  | exact tape_setAt
  | exact tape_setGreat
  | exact tape_setLeft
  | exact tape_setSeed
  | exact tape_setTurn)
local macro_rules | `(tactic| walk_at "dl") => `(tactic| first
  | exact tape_len
  | (show _ < 1000; simp only [List.length_cons, List.length_nil]; omega))
local macro_rules | `(tactic| walk_at "go1") => `(tactic| first
  | with_reducible refine w_var rfl ?_
  | with_reducible refine w_seq ?_
  | with_reducible refine w_asg ?_
  | with_reducible refine w_gName ?_
  | with_reducible refine w_c ?_
  | with_reducible refine w_op ?_
  | with_reducible refine w_I0 ?_
  | with_reducible refine w_addI ?_
  | with_reducible refine w_cb ?_
  | with_reducible refine w_aCons ?_
  | with_reducible refine w_aNil ?_
  | with_reducible refine w_int1 ?_
  | with_reducible refine w_int1b ?_
  | ((with_reducible refine w_I ?_ ?_); (· walk_at "num"))
  | with_reducible refine w_test ?_
  | with_reducible refine w_exb ?_
  | with_reducible refine w_exi ?_
  | with_reducible refine w_ifS ?_
  | with_reducible refine w_tru ?_
  | with_reducible refine w_truB ?_
  | with_reducible refine w_eqI ?_
  | with_reducible refine w_neI ?_
  | with_reducible refine iteT ?_
  | with_reducible refine iteF ?_
  | with_reducible refine w_not ?_
  | with_reducible refine w_and ?_
  | with_reducible refine w_or ?_
  | with_reducible refine w_iteNT ?_
  | with_reducible refine w_iteNF ?_
  | with_reducible refine w_ret ?_
  | with_reducible refine w_retN ?_
  | with_reducible refine w_next ?_
  | with_reducible refine w_drop ?_
  | with_reducible refine w_augI rfl ?_
  | with_reducible refine w_ipI ?_
  | with_reducible refine w_un ?_
  | with_reducible refine w_rU ?_
  | with_reducible refine w_abs ?_
  | with_reducible refine w_max2 ?_
  | with_reducible refine w_min2 ?_
  | with_reducible refine w_call ?_
  | with_reducible refine w_tB ?_
  | with_reducible refine w_bm ?_
  | ((with_reducible show tyV _ "list" (V.ref _) _ ∧ _); refine w_tyL (by walk_at "sq") ?_)
  | ((with_reducible show rIx _ (V.ref _) (V.int _) _ _); refine w_ixI (by walk_at "sq") (by walk_at "num") (by walk_at "num") ?_)
  | ((with_reducible show rSumS _ [V.ref _] _ _); refine w_sumI (by walk_at "sq") ?_)
  | ((with_reducible show rLenS _ [V.ref _] _ _); refine w_lenI (by walk_at "sq") ?_)
  | ((with_reducible show rLenS _ [V.ref _] _ _); refine w_lenS (by walk_at "sq") ?_)
  | with_reducible refine w_isNn ?_
  | with_reducible refine w_isNi ?_
  | with_reducible refine w_isNb ?_
  | with_reducible refine w_isNs ?_
  | with_reducible refine w_isNr ?_
  | with_reducible refine w_notNn ?_
  | with_reducible refine w_notNi ?_
  | with_reducible refine w_notNb ?_
  | with_reducible refine w_notNs ?_
  | with_reducible refine w_notNr ?_
  | with_reducible refine w_lstD ?_
  | with_reducible refine w_tupD ?_
  | with_reducible refine w_sl ?_
  | with_reducible refine w_noPart ?_
  | with_reducible refine w_part ?_
  | with_reducible refine w_for ?_
  | with_reducible refine w_iRng1 ?_
  | with_reducible refine w_iRng2 ?_
  | with_reducible refine w_iSeq ?_
  | with_reducible refine w_iEnumS ?_
  | with_reducible refine w_andV ?_
  | with_reducible refine w_orV ?_
  | with_reducible refine w_notV ?_
  | with_reducible refine w_ifE ?_
  | with_reducible refine w_brk ?_
  | with_reducible refine w_cont ?_
  | with_reducible refine w_gSub ?_
  | with_reducible refine w_lc ?_
  | with_reducible refine w_iZipS ?_
  | with_reducible refine w_fld ?_
  | ((with_reducible show ∃ a C dx fs v, V.ref _ = V.ref a ∧ _ ∧ Cls _ _ ∧ NoAttr _ _ _ ∧ _ ∧ _); refine w_fldAt (by walk_at "at") (by assumption) (by assumption) (by walk_at "lk") ?_)
  | with_reducible refine w_sfld ?_
  | ((with_reducible show ∃ a C dx fs, V.ref _ = V.ref a ∧ _ ∧ Cls _ _ ∧ NoAttr _ _ _ ∧ _ ∧ _); refine w_sfldAt (by walk_at "at") (by assumption) (by assumption) (by show _ < 1000; simp only [List.length_cons, List.length_nil]; omega) (by walk_at "pf") ?_)
  | with_reducible refine w_meth ?_
  | ((with_reducible show ∃ a dx fs, V.ref _ = V.ref a ∧ _ ∧ _ ∧ _); refine w_methAt (by walk_at "at") (by walk_at "lk") ?_)
  | with_reducible refine w_make ?_
  | with_reducible refine w_chain ?_
  | with_reducible refine w_dget ?_
  | ((with_reducible show ∃ a v, V.ref _ = V.ref a ∧ DGet _ a (V.str _) (some v) ∧ _); refine w_dgetAt (by walk_at "at") (by walk_at "vv") ?_)
  | ((with_reducible show ∃ a H4, V.ref _ = V.ref a ∧ DPut _ a (V.str _) _ H4 ∧ _); refine w_dputAt (by walk_at "at") (by walk_at "dl") (by walk_at "pp") ?_)
  | with_reducible refine w_dput ?_
  | with_reducible refine w_disp ?_
  | with_reducible refine w_prop ?_
  | ((with_reducible show ∃ a dx fs, V.ref _ = V.ref a ∧ _ ∧ _); refine w_propAt (by walk_at "at") ?_)
  | with_reducible refine w_lstRg ?_
  | with_reducible refine w_tupRg ?_
  | with_reducible refine w_rg1 ?_
  | with_reducible refine w_rg2 ?_
  | with_reducible refine w_augS ?_
  | ((with_reducible show rGetL (V.ref _) (V.int _) _ _); refine w_getI (by walk_at "at") (by walk_at "num") (by walk_at "num") ?_)
  | with_reducible refine w_pair0 ?_
  | with_reducible refine w_pair1 ?_
  | ((with_reducible show Ends.rt _ _ _); with_reducible refine w_rt ?_)
  | ((with_reducible show Ends.bk _ _ _); with_reducible refine w_bk ?_)
  | ((with_reducible show Ends.ct _ _ _); with_reducible refine w_ct ?_)
  | ((with_reducible show Ends.nx _ _ _); with_reducible refine w_nx ?_))
local macro_rules | `(tactic| walk_at "go") => `(tactic| repeat walk_at "go1")
/-! new objects named by themselves -/
local macro_rules | `(tactic| walk_at "same2") => `(tactic| first
  | with_reducible assumption
  | exact Same.refl _
  | (refine Same.trans (H1 := _) ?_ (by with_reducible assumption); walk_at "same2"))
local macro_rules | `(tactic| walk_at "at2") => `(tactic| first
  | with_reducible assumption
  | (refine Same.at ?_ (by with_reducible assumption); walk_at "same2"))
local macro_rules | `(tactic| walk_at "sq2") => `(tactic| first
  | with_reducible assumption
  | exact Sq.lst (by walk_at "at2")
  | exact Sq.tup (by walk_at "at2")
  | (refine Same.sq ?_ (by with_reducible assumption); walk_at "same2"))
local macro_rules | `(tactic| walk_at "ati") => `(tactic| first
  | exact atI_nat (j := 0) rfl
  | exact atI_nat (j := 1) rfl
  | exact atI_nat (j := 2) rfl
  | exact atI_nat (j := 3) rfl
  | exact atI_nat (j := 4) rfl)
local macro_rules | `(tactic| walk_at "nw1") => `(tactic| first
  | with_reducible refine w_tupN ?_
  | with_reducible refine w_lstN ?_
  | ((with_reducible show NewO _ _ _ _); refine w_new (by first | exact Nat.zero_le _ | (simp only [List.length_cons, List.length_nil]; omega)) ?_; intro p H' hp s e)
  | with_reducible refine w_methT ?_
  | with_reducible refine w_makeT ?_
  | with_reducible refine w_callS ?_
  | ((with_reducible show rIx _ (V.ref _) (V.int _) _ _); refine w_ixI (by walk_at "sq2") (by walk_at "num") (by walk_at "num") ?_)
  | ((with_reducible show rIx _ (V.ref _) (V.int _) _ _); refine w_ix (by walk_at "sq2") (by walk_at "ati") ?_)
  | ((with_reducible show rListS _ [V.ref _] _ _); refine w_listN (by walk_at "sq2") ?_; intro p H' hp s e)
  | ((with_reducible show rTupS _ [V.ref _] _ _); refine w_tupNL (by walk_at "sq2") ?_; intro p H' hp s e)
  | ((with_reducible show rTupS _ [V.ref _] _ _); refine w_tupT (by walk_at "sq2") ?_)
  | with_reducible refine w_neBB ?_
  | with_reducible refine w_neSS ?_
  | with_reducible refine w_eqSS ?_
  | ((with_reducible show rEqG _ (V.str _) (V.str _) _ _); refine w_eqSD (by decide +kernel) ?_)
  | ((with_reducible show rNeG _ (V.str _) (V.str _) _ _); refine w_neSD (by decide +kernel) ?_)
  | with_reducible refine w_augF ?_
  | ((with_reducible show ∃ a C dx fs v, V.ref _ = V.ref a ∧ _ ∧ Cls _ _ ∧ NoAttr _ _ _ ∧ _ ∧ _); refine w_augFAt (by walk_at "at") (by assumption) (by assumption) (by walk_at "lk") ?_)
  | with_reducible refine w_rAdd ?_
  | ((with_reducible show ∃ dx' fs', _ ∧ List.length fs' < 1000 ∧ _); refine w_augFEnd (by walk_at "at") (by show _ < 1000; simp only [List.length_cons, List.length_nil]; omega) (by walk_at "pf") ?_)
  | walk_at "go1")
local macro_rules | `(tactic| walk_at "GO") => `(tactic| repeat walk_at "nw1")

def topS (i : Nat) : Stmt := PySem.Challenge.pw_servedalone_k01_rows_of_a_net.main.body.getD i (.Pass ⟨0, 0, 0, 0⟩)
abbrev s_InvalidNumber___init__ : Stmt := inClass (topS 2) 0
abbrev s_InvalidLetter___init__ : Stmt := inClass (topS 3) 0
abbrev s_NoRoom___init__ : Stmt := inClass (topS 4) 0
abbrev s_NotHeld___init__ : Stmt := inClass (topS 5) 0
abbrev s_NotAlone___init__ : Stmt := inClass (topS 6) 0
abbrev s_NoRequest___init__ : Stmt := inClass (topS 7) 0
abbrev s_NoHouse___init__ : Stmt := inClass (topS 8) 0
abbrev s_TooLarge___init__ : Stmt := inClass (topS 9) 0
abbrev s_is_between : Stmt := topS 12
abbrev s_vector_of : Stmt := topS 13
abbrev s_matrix_of : Stmt := topS 14
abbrev s_product_sum : Stmt := topS 15
abbrev s_Net___init__ : Stmt := inClass (topS 16) 0
abbrev s_Net_letters : Stmt := inClass (topS 16) 1
abbrev s_Net_is_letter : Stmt := inClass (topS 16) 2
abbrev s_Net_rest : Stmt := inClass (topS 16) 3
abbrev s_Net_times : Stmt := inClass (topS 16) 4
abbrev s_Net_plus : Stmt := inClass (topS 16) 5
abbrev s_Net_looked_at : Stmt := inClass (topS 16) 6
abbrev s_Net_row : Stmt := inClass (topS 16) 7
abbrev s_L_numbers : Stmt := topS 18
abbrev s_L_same : Stmt := topS 19
abbrev s_L_vector : Stmt := topS 20
abbrev s_L_net : Stmt := topS 21
abbrev s_L_dot : Stmt := topS 22
abbrev s_L_times : Stmt := topS 23
abbrev s_L_row : Stmt := topS 24
abbrev s_L_listed : Stmt := topS 25
abbrev s_L_odd : Stmt := topS 26
abbrev s_L_ask : Stmt := topS 27
abbrev s_L_spoilt : Stmt := topS 28
abbrev s_L_spoilt_one : Stmt := topS 29
abbrev s_law : Stmt := topS 30
theorem sc_InvalidNumber___init__ : FnScope ["self", "number"] ["self", "number"] (defScope s_InvalidNumber___init__) := ⟨rfl, rfl, rfl, by decide +kernel, rfl, by decide +kernel, by decide +kernel⟩
theorem sc_InvalidLetter___init__ : FnScope ["self", "letter"] ["self", "letter"] (defScope s_InvalidLetter___init__) := ⟨rfl, rfl, rfl, by decide +kernel, rfl, by decide +kernel, by decide +kernel⟩
theorem sc_NoRoom___init__ : FnScope ["self", "many"] ["self", "many"] (defScope s_NoRoom___init__) := ⟨rfl, rfl, rfl, by decide +kernel, rfl, by decide +kernel, by decide +kernel⟩
theorem sc_NotHeld___init__ : FnScope ["self", "block"] ["self", "block"] (defScope s_NotHeld___init__) := ⟨rfl, rfl, rfl, by decide +kernel, rfl, by decide +kernel, by decide +kernel⟩
theorem sc_NotAlone___init__ : FnScope ["self", "block"] ["self", "block"] (defScope s_NotAlone___init__) := ⟨rfl, rfl, rfl, by decide +kernel, rfl, by decide +kernel, by decide +kernel⟩
theorem sc_NoRequest___init__ : FnScope ["self", "ticket"] ["self", "ticket"] (defScope s_NoRequest___init__) := ⟨rfl, rfl, rfl, by decide +kernel, rfl, by decide +kernel, by decide +kernel⟩
theorem sc_NoHouse___init__ : FnScope ["self", "house"] ["self", "house"] (defScope s_NoHouse___init__) := ⟨rfl, rfl, rfl, by decide +kernel, rfl, by decide +kernel, by decide +kernel⟩
theorem sc_TooLarge___init__ : FnScope ["self", "ticket"] ["self", "ticket"] (defScope s_TooLarge___init__) := ⟨rfl, rfl, rfl, by decide +kernel, rfl, by decide +kernel, by decide +kernel⟩
theorem sc_is_between : FnScope ["value", "least", "most"] ["value", "least", "most"] (defScope s_is_between) := ⟨rfl, rfl, rfl, by decide +kernel, rfl, by decide +kernel, by decide +kernel⟩
theorem sc_vector_of : FnScope ["numbers"] ["numbers"] (defScope s_vector_of) := ⟨rfl, rfl, rfl, by decide +kernel, rfl, by decide +kernel, by decide +kernel⟩
theorem sc_matrix_of : FnScope ["rows", "row"] ["rows"] (defScope s_matrix_of) := ⟨rfl, rfl, rfl, by decide +kernel, rfl, by decide +kernel, by decide +kernel⟩
theorem sc_product_sum : FnScope ["one", "two", "total", "number", "other"] ["one", "two"] (defScope s_product_sum) := ⟨rfl, rfl, rfl, by decide +kernel, rfl, by decide +kernel, by decide +kernel⟩
theorem sc_Net___init__ : FnScope ["self", "prime", "embed", "shift", "layers", "out", "end", "layer", "matrix"] ["self", "prime", "embed", "shift", "layers", "out", "end"] (defScope s_Net___init__) := ⟨rfl, rfl, rfl, by decide +kernel, rfl, by decide +kernel, by decide +kernel⟩
theorem sc_Net_letters : FnScope ["self"] ["self"] (defScope s_Net_letters) := ⟨rfl, rfl, rfl, by decide +kernel, rfl, by decide +kernel, by decide +kernel⟩
theorem sc_Net_is_letter : FnScope ["self", "value"] ["self", "value"] (defScope s_Net_is_letter) := ⟨rfl, rfl, rfl, by decide +kernel, rfl, by decide +kernel, by decide +kernel⟩
theorem sc_Net_rest : FnScope ["self", "number"] ["self", "number"] (defScope s_Net_rest) := ⟨rfl, rfl, rfl, by decide +kernel, rfl, by decide +kernel, by decide +kernel⟩
theorem sc_Net_times : FnScope ["self", "matrix", "vector", "row"] ["self", "matrix", "vector"] (defScope s_Net_times) := ⟨rfl, rfl, rfl, by decide +kernel, rfl, by decide +kernel, by decide +kernel⟩
theorem sc_Net_plus : FnScope ["self", "one", "two", "number", "other"] ["self", "one", "two"] (defScope s_Net_plus) := ⟨rfl, rfl, rfl, by decide +kernel, rfl, by decide +kernel, by decide +kernel⟩
theorem sc_Net_looked_at : FnScope ["self", "query", "pairs", "found", "key", "value", "part", "_", "number"] ["self", "query", "pairs"] (defScope s_Net_looked_at) := ⟨rfl, rfl, rfl, by decide +kernel, rfl, by decide +kernel, by decide +kernel⟩
theorem sc_Net_row : FnScope ["self", "rows", "letter", "x", "own", "layer", "query", "key", "value", "first", "second", "pair", "pairs", "weights", "vector", "number", "row"] ["self", "rows", "letter"] (defScope s_Net_row) := ⟨rfl, rfl, rfl, by decide +kernel, rfl, by decide +kernel, by decide +kernel⟩
theorem sc_L_numbers : FnScope ["_law_cell", "_law_at", "_law_many", "_law_great", "_law_rest", "_law_numbers_here", "_law_k", "_law_mixed"] ["_law_cell", "_law_at", "_law_many"] (defScope s_L_numbers) := ⟨rfl, rfl, rfl, by decide +kernel, rfl, by decide +kernel, by decide +kernel⟩
theorem sc_L_same : FnScope ["_law_actual", "_law_expected", "_law_k"] ["_law_actual", "_law_expected"] (defScope s_L_same) := ⟨rfl, rfl, rfl, by decide +kernel, rfl, by decide +kernel, by decide +kernel⟩
theorem sc_L_vector : FnScope ["_law_numbers_here", "_law_at", "_law_width", "_law_prime", "_law_vector_here", "_law_j"] ["_law_numbers_here", "_law_at", "_law_width", "_law_prime"] (defScope s_L_vector) := ⟨rfl, rfl, rfl, by decide +kernel, rfl, by decide +kernel, by decide +kernel⟩
theorem sc_L_net : FnScope ["_law_numbers_here", "_law_letters", "_law_width", "_law_many", "_law_prime", "_law_rows", "_law_j", "_law_layers", "_law_at", "_law_matrices", "_law_first"] ["_law_numbers_here", "_law_letters", "_law_width", "_law_many", "_law_prime"] (defScope s_L_net) := ⟨rfl, rfl, rfl, by decide +kernel, rfl, by decide +kernel, by decide +kernel⟩
theorem sc_L_dot : FnScope ["_law_one", "_law_other", "_law_prime", "_law_total", "_law_k"] ["_law_one", "_law_other", "_law_prime"] (defScope s_L_dot) := ⟨rfl, rfl, rfl, by decide +kernel, rfl, by decide +kernel, by decide +kernel⟩
theorem sc_L_times : FnScope ["_law_matrix", "_law_vector_here", "_law_prime", "_law_row_here"] ["_law_matrix", "_law_vector_here", "_law_prime"] (defScope s_L_times) := ⟨rfl, rfl, rfl, by decide +kernel, rfl, by decide +kernel, by decide +kernel⟩
theorem sc_L_row : FnScope ["_law_net_here", "_law_rows", "_law_letter", "_law_prime", "_law_x", "_law_pairs", "_law_at", "_law_layer", "_law_asked", "_law_pair", "_law_other", "_law_near", "_law_squares", "_law_more", "_law_k", "_law_one", "_law_row_here"] ["_law_net_here", "_law_rows", "_law_letter"] (defScope s_L_row) := ⟨rfl, rfl, rfl, by decide +kernel, rfl, by decide +kernel, by decide +kernel⟩
theorem sc_L_listed : FnScope ["_law_value", "_law_one"] ["_law_value"] (defScope s_L_listed) := ⟨rfl, rfl, rfl, by decide +kernel, rfl, by decide +kernel, by decide +kernel⟩
theorem sc_L_odd : FnScope ["_law_numbers_here", "_law_k", "_law_good", "_law_most", "_law_odds", "_law_small", "_law_odd_here"] ["_law_numbers_here", "_law_k", "_law_good", "_law_most"] (defScope s_L_odd) := ⟨rfl, rfl, rfl, by decide +kernel, rfl, by decide +kernel, by decide +kernel⟩
theorem sc_L_ask : FnScope ["_law_net_here", "_law_word", "_law_value", "_law_kinds", "e"] ["_law_net_here", "_law_word", "_law_value"] (defScope s_L_ask) := ⟨rfl, rfl, rfl, by decide +kernel, rfl, by decide +kernel, by decide +kernel⟩
theorem sc_L_spoilt : FnScope ["_law_listed_here", "_law_k"] ["_law_listed_here"] (defScope s_L_spoilt) := ⟨rfl, rfl, rfl, by decide +kernel, rfl, by decide +kernel, by decide +kernel⟩
theorem sc_L_spoilt_one : FnScope ["_law_row_here", "_law_k"] ["_law_row_here"] (defScope s_L_spoilt_one) := ⟨rfl, rfl, rfl, by decide +kernel, rfl, by decide +kernel, by decide +kernel⟩
theorem sc_law : FnScope ["_law_script", "_law_at", "_law_numbers_here", "_law_primes", "_law_prime", "_law_letters", "_law_width", "_law_many", "_law_net_here", "_law_end", "_law_parts", "_law_layer", "_law_copies", "_law_told", "_law_rows", "_law_k", "_law_letter", "_law_due", "_law_handed", "_law_odd_here", "_law_part"] ["_law_script"] (defScope s_law) := ⟨rfl, rfl, rfl, by decide +kernel, rfl, by decide +kernel, by decide +kernel⟩

structure Txt (K : PySem.W.Frag) (mg : Str → Option Value) : Type where
  z_ValueError : mg "ValueError" = none
  z_abs : mg "abs" = none
  z_bool : mg "bool" = none
  z_enumerate : mg "enumerate" = none
  z_int : mg "int" = none
  z_isinstance : mg "isinstance" = none
  z_len : mg "len" = none
  z_list : mg "list" = none
  z_min : mg "min" = none
  z_range : mg "range" = none
  z_repr : mg "repr" = none
  z_str : mg "str" = none
  z_tuple : mg "tuple" = none
  z_zip : mg "zip" = none
  c_Net : Addr
  C_Net : Cls K c_Net
  gc_Net : mg "Net" = some (.ref c_Net)
  n_Net_prime : NoAttr K c_Net "prime"
  n_Net_embed : NoAttr K c_Net "embed"
  n_Net_shift : NoAttr K c_Net "shift"
  n_Net_layers : NoAttr K c_Net "layers"
  n_Net_out : NoAttr K c_Net "out"
  n_Net_end : NoAttr K c_Net "end"
  c_ServeError : Addr
  gc_ServeError : mg "ServeError" = some (.ref c_ServeError)
  er_ServeError : ErrN K c_ServeError
  c_InvalidNumber : Addr
  gc_InvalidNumber : mg "InvalidNumber" = some (.ref c_InvalidNumber)
  er_InvalidNumber : ErrN K c_InvalidNumber
  c_InvalidLetter : Addr
  gc_InvalidLetter : mg "InvalidLetter" = some (.ref c_InvalidLetter)
  er_InvalidLetter : ErrN K c_InvalidLetter
  c_NoHouse : Addr
  gc_NoHouse : mg "NoHouse" = some (.ref c_NoHouse)
  er_NoHouse : ErrN K c_NoHouse
  c_NoRequest : Addr
  gc_NoRequest : mg "NoRequest" = some (.ref c_NoRequest)
  er_NoRequest : ErrN K c_NoRequest
  c_NoRoom : Addr
  gc_NoRoom : mg "NoRoom" = some (.ref c_NoRoom)
  er_NoRoom : ErrN K c_NoRoom
  c_NotAlone : Addr
  gc_NotAlone : mg "NotAlone" = some (.ref c_NotAlone)
  er_NotAlone : ErrN K c_NotAlone
  c_NotHeld : Addr
  gc_NotHeld : mg "NotHeld" = some (.ref c_NotHeld)
  er_NotHeld : ErrN K c_NotHeld
  c_TooLarge : Addr
  gc_TooLarge : mg "TooLarge" = some (.ref c_TooLarge)
  er_TooLarge : ErrN K c_TooLarge
  k_PRIMES : Addr
  gk_PRIMES : mg "PRIMES" = some (.ref k_PRIMES)
  tk_PRIMES : ∀ H : Hp, SqT K H k_PRIMES ([.int 2, .int 3, .int 5, .int 7, .int 11, .int 13, .int 17, .int 19, .int 23, .int 29, .int 31, .int 37, .int 41, .int 43, .int 47, .int 53, .int 59, .int 61, .int 67, .int 71, .int 73, .int 79, .int 83, .int 89, .int 97] : List V)
  a_InvalidNumber___init__ : Addr
  d_InvalidNumber___init__ : FuncData
  F_InvalidNumber___init__ : Fun K "__init__" "InvalidNumber.__init__" s_InvalidNumber___init__ a_InvalidNumber___init__ d_InvalidNumber___init__
  b_InvalidNumber___init__ : Binds K d_InvalidNumber___init__ ["self", "number"] []
  a_InvalidLetter___init__ : Addr
  d_InvalidLetter___init__ : FuncData
  F_InvalidLetter___init__ : Fun K "__init__" "InvalidLetter.__init__" s_InvalidLetter___init__ a_InvalidLetter___init__ d_InvalidLetter___init__
  b_InvalidLetter___init__ : Binds K d_InvalidLetter___init__ ["self", "letter"] []
  a_is_between : Addr
  d_is_between : FuncData
  F_is_between : Fun K "is_between" "is_between" s_is_between a_is_between d_is_between
  g_is_between : mg "is_between" = some (.ref a_is_between)
  b_is_between : Binds K d_is_between ["value", "least", "most"] []
  a_vector_of : Addr
  d_vector_of : FuncData
  F_vector_of : Fun K "vector_of" "vector_of" s_vector_of a_vector_of d_vector_of
  g_vector_of : mg "vector_of" = some (.ref a_vector_of)
  b_vector_of : Binds K d_vector_of ["numbers"] []
  a_matrix_of : Addr
  d_matrix_of : FuncData
  F_matrix_of : Fun K "matrix_of" "matrix_of" s_matrix_of a_matrix_of d_matrix_of
  g_matrix_of : mg "matrix_of" = some (.ref a_matrix_of)
  b_matrix_of : Binds K d_matrix_of ["rows"] []
  a_product_sum : Addr
  d_product_sum : FuncData
  F_product_sum : Fun K "product_sum" "product_sum" s_product_sum a_product_sum d_product_sum
  g_product_sum : mg "product_sum" = some (.ref a_product_sum)
  b_product_sum : Binds K d_product_sum ["one", "two"] []
  a_Net___init__ : Addr
  d_Net___init__ : FuncData
  F_Net___init__ : Fun K "__init__" "Net.__init__" s_Net___init__ a_Net___init__ d_Net___init__
  b_Net___init__ : Binds K d_Net___init__ ["self", "prime", "embed", "shift", "layers", "out", "end"] []
  M_Net : Mk K c_Net a_Net___init__
  a_Net_letters : Addr
  d_Net_letters : FuncData
  F_Net_letters : Fun K "letters" "Net.letters" s_Net_letters a_Net_letters d_Net_letters
  b_Net_letters : Binds K d_Net_letters ["self"] []
  p_Net_letters : Addr
  P_Net_letters : PropOf K c_Net "letters" p_Net_letters a_Net_letters
  a_Net_is_letter : Addr
  d_Net_is_letter : FuncData
  F_Net_is_letter : Fun K "is_letter" "Net.is_letter" s_Net_is_letter a_Net_is_letter d_Net_is_letter
  b_Net_is_letter : Binds K d_Net_is_letter ["self", "value"] []
  m_Net_is_letter : Meth K c_Net "is_letter" a_Net_is_letter
  a_Net_rest : Addr
  d_Net_rest : FuncData
  F_Net_rest : Fun K "rest" "Net.rest" s_Net_rest a_Net_rest d_Net_rest
  b_Net_rest : Binds K d_Net_rest ["self", "number"] []
  m_Net_rest : Meth K c_Net "rest" a_Net_rest
  a_Net_times : Addr
  d_Net_times : FuncData
  F_Net_times : Fun K "times" "Net.times" s_Net_times a_Net_times d_Net_times
  b_Net_times : Binds K d_Net_times ["self", "matrix", "vector"] []
  m_Net_times : Meth K c_Net "times" a_Net_times
  a_Net_plus : Addr
  d_Net_plus : FuncData
  F_Net_plus : Fun K "plus" "Net.plus" s_Net_plus a_Net_plus d_Net_plus
  b_Net_plus : Binds K d_Net_plus ["self", "one", "two"] []
  m_Net_plus : Meth K c_Net "plus" a_Net_plus
  a_Net_looked_at : Addr
  d_Net_looked_at : FuncData
  F_Net_looked_at : Fun K "looked_at" "Net.looked_at" s_Net_looked_at a_Net_looked_at d_Net_looked_at
  b_Net_looked_at : Binds K d_Net_looked_at ["self", "query", "pairs"] []
  m_Net_looked_at : Meth K c_Net "looked_at" a_Net_looked_at
  a_Net_row : Addr
  d_Net_row : FuncData
  F_Net_row : Fun K "row" "Net.row" s_Net_row a_Net_row d_Net_row
  b_Net_row : Binds K d_Net_row ["self", "rows", "letter"] []
  m_Net_row : Meth K c_Net "row" a_Net_row
  a_L_numbers : Addr
  d_L_numbers : FuncData
  F_L_numbers : Fun K "_law_numbers" "_law_numbers" s_L_numbers a_L_numbers d_L_numbers
  g_L_numbers : mg "_law_numbers" = some (.ref a_L_numbers)
  b_L_numbers : Binds K d_L_numbers ["_law_cell", "_law_at", "_law_many"] []
  a_L_same : Addr
  d_L_same : FuncData
  F_L_same : Fun K "_law_same" "_law_same" s_L_same a_L_same d_L_same
  g_L_same : mg "_law_same" = some (.ref a_L_same)
  b_L_same : Binds K d_L_same ["_law_actual", "_law_expected"] []
  a_L_vector : Addr
  d_L_vector : FuncData
  F_L_vector : Fun K "_law_vector" "_law_vector" s_L_vector a_L_vector d_L_vector
  g_L_vector : mg "_law_vector" = some (.ref a_L_vector)
  b_L_vector : Binds K d_L_vector ["_law_numbers_here", "_law_at", "_law_width", "_law_prime"] []
  a_L_net : Addr
  d_L_net : FuncData
  F_L_net : Fun K "_law_net" "_law_net" s_L_net a_L_net d_L_net
  g_L_net : mg "_law_net" = some (.ref a_L_net)
  b_L_net : Binds K d_L_net ["_law_numbers_here", "_law_letters", "_law_width", "_law_many", "_law_prime"] []
  a_L_dot : Addr
  d_L_dot : FuncData
  F_L_dot : Fun K "_law_dot" "_law_dot" s_L_dot a_L_dot d_L_dot
  g_L_dot : mg "_law_dot" = some (.ref a_L_dot)
  b_L_dot : Binds K d_L_dot ["_law_one", "_law_other", "_law_prime"] []
  a_L_times : Addr
  d_L_times : FuncData
  F_L_times : Fun K "_law_times" "_law_times" s_L_times a_L_times d_L_times
  g_L_times : mg "_law_times" = some (.ref a_L_times)
  b_L_times : Binds K d_L_times ["_law_matrix", "_law_vector_here", "_law_prime"] []
  a_L_row : Addr
  d_L_row : FuncData
  F_L_row : Fun K "_law_row" "_law_row" s_L_row a_L_row d_L_row
  g_L_row : mg "_law_row" = some (.ref a_L_row)
  b_L_row : Binds K d_L_row ["_law_net_here", "_law_rows", "_law_letter"] []
  a_L_listed : Addr
  d_L_listed : FuncData
  F_L_listed : Fun K "_law_listed" "_law_listed" s_L_listed a_L_listed d_L_listed
  g_L_listed : mg "_law_listed" = some (.ref a_L_listed)
  b_L_listed : Binds K d_L_listed ["_law_value"] []
  a_L_odd : Addr
  d_L_odd : FuncData
  F_L_odd : Fun K "_law_odd" "_law_odd" s_L_odd a_L_odd d_L_odd
  g_L_odd : mg "_law_odd" = some (.ref a_L_odd)
  b_L_odd : Binds K d_L_odd ["_law_numbers_here", "_law_k", "_law_good", "_law_most"] []
  a_L_ask : Addr
  d_L_ask : FuncData
  F_L_ask : Fun K "_law_ask" "_law_ask" s_L_ask a_L_ask d_L_ask
  g_L_ask : mg "_law_ask" = some (.ref a_L_ask)
  b_L_ask : Binds K d_L_ask ["_law_net_here", "_law_word", "_law_value"] []
  a_L_spoilt : Addr
  d_L_spoilt : FuncData
  F_L_spoilt : Fun K "_law_spoilt" "_law_spoilt" s_L_spoilt a_L_spoilt d_L_spoilt
  g_L_spoilt : mg "_law_spoilt" = some (.ref a_L_spoilt)
  b_L_spoilt : Binds K d_L_spoilt ["_law_listed_here"] []
  a_L_spoilt_one : Addr
  d_L_spoilt_one : FuncData
  F_L_spoilt_one : Fun K "_law_spoilt_one" "_law_spoilt_one" s_L_spoilt_one a_L_spoilt_one d_L_spoilt_one
  g_L_spoilt_one : mg "_law_spoilt_one" = some (.ref a_L_spoilt_one)
  b_L_spoilt_one : Binds K d_L_spoilt_one ["_law_row_here"] []
  a_law : Addr
  d_law : FuncData
  F_law : Fun K "law" "law" s_law a_law d_law
  g_law : mg "law" = some (.ref a_law)
  b_law : Binds K d_law ["_law_script"] []
  ox_InvalidNumber : OexC K c_InvalidNumber
  ic_InvalidNumber : PySem.W.findIn K (.ref c_InvalidNumber) "__init__" = some (some (.ref a_InvalidNumber___init__))
  ti_InvalidNumber : PySem.W.typeIn K (.ref a_InvalidNumber___init__) = some (.type "function")
  nf_InvalidNumber : PySem.W.findIn K (.ref c_InvalidNumber) "number" = some none
  xf_InvalidNumber : XfC K c_InvalidNumber
  ec_InvalidNumber : ExcC K c_InvalidNumber
  sv_InvalidNumber : PySem.W.subIn K (.ref c_InvalidNumber) (.type "ValueError") = some true
  sub_InvalidNumber_ServeError : PySem.W.subIn K (.ref c_InvalidNumber) (.ref c_ServeError) = some true
  sub_InvalidNumber_InvalidNumber : PySem.W.subIn K (.ref c_InvalidNumber) (.ref c_InvalidNumber) = some true
  sub_InvalidNumber_InvalidLetter : PySem.W.subIn K (.ref c_InvalidNumber) (.ref c_InvalidLetter) = some false
  sub_InvalidNumber_NoHouse : PySem.W.subIn K (.ref c_InvalidNumber) (.ref c_NoHouse) = some false
  sub_InvalidNumber_NoRequest : PySem.W.subIn K (.ref c_InvalidNumber) (.ref c_NoRequest) = some false
  sub_InvalidNumber_NoRoom : PySem.W.subIn K (.ref c_InvalidNumber) (.ref c_NoRoom) = some false
  sub_InvalidNumber_NotAlone : PySem.W.subIn K (.ref c_InvalidNumber) (.ref c_NotAlone) = some false
  sub_InvalidNumber_NotHeld : PySem.W.subIn K (.ref c_InvalidNumber) (.ref c_NotHeld) = some false
  sub_InvalidNumber_TooLarge : PySem.W.subIn K (.ref c_InvalidNumber) (.ref c_TooLarge) = some false
  ox_InvalidLetter : OexC K c_InvalidLetter
  ic_InvalidLetter : PySem.W.findIn K (.ref c_InvalidLetter) "__init__" = some (some (.ref a_InvalidLetter___init__))
  ti_InvalidLetter : PySem.W.typeIn K (.ref a_InvalidLetter___init__) = some (.type "function")
  nf_InvalidLetter : PySem.W.findIn K (.ref c_InvalidLetter) "letter" = some none
  xf_InvalidLetter : XfC K c_InvalidLetter
  ec_InvalidLetter : ExcC K c_InvalidLetter
  sv_InvalidLetter : PySem.W.subIn K (.ref c_InvalidLetter) (.type "ValueError") = some true
  sub_InvalidLetter_ServeError : PySem.W.subIn K (.ref c_InvalidLetter) (.ref c_ServeError) = some true
  sub_InvalidLetter_InvalidNumber : PySem.W.subIn K (.ref c_InvalidLetter) (.ref c_InvalidNumber) = some false
  sub_InvalidLetter_InvalidLetter : PySem.W.subIn K (.ref c_InvalidLetter) (.ref c_InvalidLetter) = some true
  sub_InvalidLetter_NoHouse : PySem.W.subIn K (.ref c_InvalidLetter) (.ref c_NoHouse) = some false
  sub_InvalidLetter_NoRequest : PySem.W.subIn K (.ref c_InvalidLetter) (.ref c_NoRequest) = some false
  sub_InvalidLetter_NoRoom : PySem.W.subIn K (.ref c_InvalidLetter) (.ref c_NoRoom) = some false
  sub_InvalidLetter_NotAlone : PySem.W.subIn K (.ref c_InvalidLetter) (.ref c_NotAlone) = some false
  sub_InvalidLetter_NotHeld : PySem.W.subIn K (.ref c_InvalidLetter) (.ref c_NotHeld) = some false
  sub_InvalidLetter_TooLarge : PySem.W.subIn K (.ref c_InvalidLetter) (.ref c_TooLarge) = some false

section
variable {P : Program} {w : World} {K : PySem.W.Frag} {mg : Str → Option Value} {base : Heap}
theorem ok_InvalidNumber___init__ (T : Txt K mg) : FnOk P w K mg base CX0 1 T.a_InvalidNumber___init__ T.d_InvalidNumber___init__ ["self", "number"] (spErr K "number") := by
  refine T.F_InvalidNumber___init__.ok sc_InvalidNumber___init__ (fun vs H Q E h => ?_) (fun cdv A outer s H vs Q E hr h => ?_)
  · obtain ⟨_, _, _, rfl, _⟩ := h
    rfl
  · obtain ⟨a, C, v, rfl, h0, T1, n1, k⟩ := h
    refine ⟨_, (pss_one (ps_ost (pv 0) (pv 1) rfl)), ?_⟩
    refine go_start (σ' := [some (.ref a), some v]) rfl ?_
    exact ⟨v, rfl, .ref a, rfl, a, C, rfl, T1, n1, .inl ⟨h0, fun dx hdx hne => k dx hdx hne⟩⟩
theorem ok_InvalidLetter___init__ (T : Txt K mg) : FnOk P w K mg base CX0 1 T.a_InvalidLetter___init__ T.d_InvalidLetter___init__ ["self", "letter"] (spErr K "letter") := by
  refine T.F_InvalidLetter___init__.ok sc_InvalidLetter___init__ (fun vs H Q E h => ?_) (fun cdv A outer s H vs Q E hr h => ?_)
  · obtain ⟨_, _, _, rfl, _⟩ := h
    rfl
  · obtain ⟨a, C, v, rfl, h0, T1, n1, k⟩ := h
    refine ⟨_, (pss_one (ps_ost (pv 0) (pv 1) rfl)), ?_⟩
    refine go_start (σ' := [some (.ref a), some v]) rfl ?_
    exact ⟨v, rfl, .ref a, rfl, a, C, rfl, T1, n1, .inl ⟨h0, fun dx hdx hne => k dx hdx hne⟩⟩

/-! ### nets over the heap -/
abbrev RMat (K : PySem.W.Frag) : Rep Mat := RSeq false K (RVec false K)
abbrev RPr (K : PySem.W.Frag) : Rep PairD := RPair K (RVec false K) (RVec false K)
abbrev RRow (K : PySem.W.Frag) : Rep RowD := RPair K (RSeq false K (RPr K)) (RVec false K)
theorem RMat.mono {K : PySem.W.Frag} : RMono (RMat K) := RSeq.mono RVec.mono
theorem RMat.tup {K : PySem.W.Frag} : RTup (RMat K) := RSeq.tup RVec.tup
theorem RPr.mono {K : PySem.W.Frag} : RMono (RPr K) := RPair.mono RVec.mono RVec.mono
theorem RPr.tup {K : PySem.W.Frag} : RTup (RPr K) := RPair.tup RVec.tup RVec.tup
theorem RRow.mono {K : PySem.W.Frag} : RMono (RRow K) := RPair.mono (RSeq.mono RPr.mono) RVec.mono
theorem RRow.tup {K : PySem.W.Frag} : RTup (RRow K) := RPair.tup (RSeq.tup RPr.tup) RVec.tup
/-- numbers in a list or a tuple; rows of such -/
def RVecX (K : PySem.W.Frag) : Rep (List Int) := fun H v ns => ∃ b, RVec b K H v ns
theorem RVecX.mono {K : PySem.W.Frag} : RMono (RVecX K) := fun _ _ _ _ s ⟨b, h⟩ => ⟨b, RVec.mono _ _ _ _ s h⟩
def RMatX (K : PySem.W.Frag) : Rep Mat := fun H v M => ∃ b, RSeq b K (RVecX K) H v M
theorem RMatX.mono {K : PySem.W.Frag} : RMono (RMatX K) := fun _ _ _ _ s ⟨b, h⟩ => ⟨b, RSeq.mono RVecX.mono _ _ _ _ s h⟩
def RLayX (K : PySem.W.Frag) : Rep (List (List Mat)) := fun H v Ls => ∃ b, RSeq b K (fun H v L => ∃ b', RSeq b' K (RMatX K) H v L) H v Ls
theorem RLayX.mono {K : PySem.W.Frag} : RMono (RLayX K) := fun _ _ _ _ s ⟨b, h⟩ => ⟨b, RSeq.mono (fun _ _ _ _ s ⟨b', h'⟩ => ⟨b', RSeq.mono RMatX.mono _ _ _ _ s h'⟩) _ _ _ _ s h⟩
theorem RMat.x {K : PySem.W.Frag} {H : Hp} {v : V} {M : Mat} (h : RMat K H v M) : RMatX K H v M := by
  obtain ⟨a, vs, e, h1, h2, h3⟩ := h
  exact ⟨false, a, vs, e, h1, h2, fun i y x e1 e2 => ⟨false, h3 i y x e1 e2⟩⟩
/-- a net's object -/
def netF (nd : NetD) (v1 v2 v3 v4 v5 : V) : List (Str × V) := [("prime", .int nd.p), ("embed", v1), ("shift", v2), ("layers", v3), ("out", v4), ("end", v5)]
def IsNet (K : PySem.W.Frag) (C : Addr) (H : Hp) (p : Addr) (nd : NetD) (e : V) : Prop := ∃ dx v1 v2 v3 v4, H p = some (.ins C dx (netF nd v1 v2 v3 v4 e)) ∧ RMat K H v1 nd.emb ∧ RVec false K H v2 nd.sh ∧ RSeq false K (RSeq false K (RMat K)) H v3 nd.lay ∧ RMat K H v4 nd.out
theorem IsNet.mono {K : PySem.W.Frag} {C : Addr} {H H' : Hp} {p : Addr} {nd : NetD} {e : V} (s : Same H H') (h : IsNet K C H p nd e) : IsNet K C H' p nd e := by
  obtain ⟨dx, v1, v2, v3, v4, h0, h1, h2, h3, h4⟩ := h
  exact ⟨dx, v1, v2, v3, v4, s _ _ h0, RMat.mono _ _ _ _ s h1, RVec.mono _ _ _ _ s h2, RSeq.mono (RSeq.mono RMat.mono) _ _ _ _ s h3, RMat.mono _ _ _ _ s h4⟩
theorem line_of {n : Nat} (h : n ≤ 1000000) : n < sizeLine := by rw [sizeLine_eq]; omega

/-! ### is_between -/
def sp_is_between (K : PySem.W.Frag) : Sp := fun vs H Q _ => ∃ (x : V) (a b : Int) (r : Bool), vs = [x, .int a, .int b] ∧
  ((∃ v, x = .int v ∧ r = decide (a ≤ v ∧ v ≤ b)) ∨ (r = false ∧ ∃ tn, TyX K H x (.type tn) ∧ (tn = "bool" ∨ tn = "NoneType" ∨ tn = "str" ∨ tn = "tuple" ∨ tn = "list"))) ∧ Q (.bl r) H
theorem ok_is_between (T : Txt K mg) : FnOk P w K mg base CX0 1 T.a_is_between T.d_is_between ["value", "least", "most"] (sp_is_between K) := by
  refine T.F_is_between.ok sc_is_between (fun vs H Q E h => ?_) (fun cdv A outer s H vs Q E hr h => ?_)
  · obtain ⟨_, _, _, _, rfl, _⟩ := h
    rfl
  · obtain ⟨x, a, b, r, rfl, hx, k⟩ := h
    refine ⟨_, (pss_one (ps_ret (pe_and (pe_callB (k_isi (K := K) rfl) (by rfl) T.z_isinstance (by decide +kernel) (pa_cons (pv 0) (pa_cons (pe_bltn (v := .ty "int") (by rfl) T.z_int (by decide +kernel) rfl) pa_nil))) (pe_and (pe_not (pe_callB (k_isi (K := K) rfl) (by rfl) T.z_isinstance (by decide +kernel) (pa_cons (pv 0) (pa_cons (pe_bltn (v := .ty "bool") (by rfl) T.z_bool (by decide +kernel) rfl) pa_nil)))) (pe_one (pe_chain op_le op_le (pv 1) (pv 0) (pv 2))))))), ?_⟩
    refine go_start (σ' := [some x, some (.int a), some (.int b)]) rfl ?_
    try dsimp only [cxOf, Cx.nox, Cx.wish]
    rcases hx with ⟨v, rfl, rfl⟩ | ⟨rfl, tn, ht, h5⟩
    · walk_at "go"
      refine w_isi (tn := "int") (b := true) (.base (.int _)) (by decide +kernel) ?_
      walk_at "go"
      refine w_isi (tn := "int") (b := false) (.base (.int _)) (by decide +kernel) ?_
      walk_at "go"
      refine w_iteD (fun h1 => ?_) (fun h1 => ?_)
      · walk_at "go"
        rw [show decide (v ≤ b) = decide (a ≤ v ∧ v ≤ b) by simp [h1]]
        exact k
      · walk_at "go"
        rw [show false = decide (a ≤ v ∧ v ≤ b) by simp [h1]]
        exact k
    · walk_at "go"
      rcases h5 with rfl | h5
      · refine w_isi (tn := "bool") (b := true) ht (by decide +kernel) ?_
        walk_at "go"
        refine w_isi (tn := "bool") (b := true) ht (by decide +kernel) ?_
        walk_at "go"
        exact k
      · have e : kitB tn "int" = some false := by rcases h5 with rfl | rfl | rfl | rfl <;> decide +kernel
        refine w_isi (tn := tn) (b := false) ht e ?_
        walk_at "go"
        exact k

/-! ### vectors and matrices -/
def sp_vector_of (K : PySem.W.Frag) : Sp := fun vs H Q _ => ∃ (v : V) (ns : List Int), vs = [v] ∧ RVecX K H v ns ∧ ∀ v' H', Same H H' → RVec false K H' v' ns → Q v' H'
theorem ok_vector_of (T : Txt K mg) : FnOk P w K mg base CX0 1 T.a_vector_of T.d_vector_of ["numbers"] (sp_vector_of K) := by
  refine T.F_vector_of.ok sc_vector_of (fun vs H Q E h => ?_) (fun cdv A outer s H vs Q E hr h => ?_)
  · obtain ⟨_, _, rfl, _⟩ := h
    rfl
  · obtain ⟨v, ns, rfl, ⟨b, a, rfl, hS⟩, k⟩ := h
    refine ⟨_, (pss_one (ps_ret (pe_callTy (k_tupS (K := K) rfl) (by rfl) T.z_tuple (by decide +kernel) (pa_cons (pv 0) pa_nil)))), ?_⟩
    refine go_start (σ' := [some (.ref a)]) rfl ?_
    try dsimp only [cxOf, Cx.nox, Cx.wish]
    walk_at "go"
    cases b with
    | true =>
      refine w_tupL hS fun l hl => ?_
      walk_at "go"
      exact k _ _ (Same.new hl) ⟨l, rfl, Sq.tup upd_same⟩
    | false =>
      refine w_tupT hS ?_
      walk_at "go"
      exact k _ _ (Same.refl _) ⟨a, rfl, hS⟩
def sp_matrix_of (K : PySem.W.Frag) : Sp := fun vs H Q _ => ∃ (v : V) (M : Mat), vs = [v] ∧ RMatX K H v M ∧ M.length ≤ 100000 ∧ ∀ v' H', Same H H' → RMat K H' v' M → Q v' H'
theorem ok_matrix_of (T : Txt K mg) : FnOk P w K mg base CX0 2 T.a_matrix_of T.d_matrix_of ["rows"] (sp_matrix_of K) := by
  refine T.F_matrix_of.ok sc_matrix_of (fun vs H Q E h => ?_) (fun cdv A outer s H vs Q E hr h => ?_)
  · obtain ⟨_, _, rfl, _⟩ := h
    rfl
  · obtain ⟨v, M, rfl, ⟨b, a, xs, rfl, hS, hl, hr2⟩, hz, k⟩ := h
    refine ⟨_, (pss_one (ps_ret (pe_callTy (k_tupS (K := K) rfl) (by rfl) T.z_tuple (by decide +kernel) (pa_cons (pe_lc (own := [("row", 1)]) (g := gName 1) (tt := tYes) rfl sc_matrix_of.nd (k_seqS (K := K) rfl (pv 0)) (blkOk_by (own := [("row", 1)]) (by kernel_rfl)) (fun _ _ _ _ _ => (pg_name (i := 1) sc_matrix_of.nd rfl (by first | exact Or.inl rfl | exact Or.inr rfl))) (fun _ _ _ _ _ => pts_nil) (fun _ _ _ _ _ => (pe_call (ok_vector_of T) (hr.mono (by decide)) (by rfl) T.g_vector_of T.F_vector_of.kp T.b_vector_of .nil pass0 (pa_cons (pv 1) pa_nil)))) pa_nil)))), ?_⟩
    refine go_start (σ' := [some (.ref a), none]) rfl ?_
    try dsimp only [cxOf, Cx.nox, Cx.wish]
    walk_at "go"
    refine c_rep (R := RVec false K) RVec.mono RVec.tup xs hS M (by omega) (line_of (by omega)) (fun _ => rfl) (fun i x d H1 N hi hx hd sm hN => ?_) (fun D H' ys hD sm e hly hry => ?_)
    · walk_at "go"
      exact ⟨x, d, rfl, RVecX.mono _ _ _ _ sm (hr2 i x d hx hd), fun v' H4 s4 r4 => hN v' H4 s4 r4⟩
    · walk_at "go"
      refine w_tupL (Sq.lst e) fun l hl2 => ?_
      walk_at "go"
      exact k _ _ (sm.trans (Same.new hl2)) ⟨l, ys, rfl, Sq.tup upd_same, hly, fun i y x h1 h2 => RVec.mono _ _ _ _ (Same.new hl2) (hry i y x h1 h2)⟩
def sp_product_sum (K : PySem.W.Frag) : Sp := fun vs H Q _ => ∃ (v1 v2 : V) (us ws : List Int), vs = [v1, v2] ∧ RVecX K H v1 us ∧ RVecX K H v2 ws ∧ us.length = ws.length ∧ Bd us ∧ ∀ H', Same H H' → Q (.int (dot us ws)) H'
theorem ok_product_sum (T : Txt K mg) : FnOk P w K mg base CX0 1 T.a_product_sum T.d_product_sum ["one", "two"] (sp_product_sum K) := by
  refine T.F_product_sum.ok sc_product_sum (fun vs H Q E h => ?_) (fun cdv A outer s H vs Q E hr h => ?_)
  · obtain ⟨_, _, _, _, rfl, _⟩ := h
    rfl
  · obtain ⟨v1, v2, us, ws, rfl, ⟨b1, a1, rfl, h1⟩, ⟨b2, a2, rfl, h2⟩, hl, hB, k⟩ := h
    refine ⟨_, (pss_cons (ps_set (i := 2) sc_product_sum.nd rfl (Or.inl rfl) pe_int)
      (pss_cons (ps_for PassesOwn.never rfl (k_zipS (K := K) rfl (by rfl) T.z_zip (pa_cons (pv 0) (pa_cons (pv 1) pa_nil))) (k_tup (K := K) rfl rfl (pgs_cons (pg_name (i := 3) sc_product_sum.nd rfl (Or.inl rfl)) (pgs_cons (pg_name (i := 4) sc_product_sum.nd rfl (Or.inl rfl)) pgs_nil)))
      (pss_one (ps_aug (i := 2) sc_product_sum.nd rfl (Or.inl rfl) (pe_op op_mul (pv 3) (pv 4)) ip_add)))
      (pss_one (ps_ret (pv 2))))), ?_⟩
    refine go_start (σ' := [some (.ref a1), some (.ref a2), none, none, none]) rfl ?_
    try dsimp only [cxOf, Cx.nox, Cx.wish]
    walk_at "go"
    refine l_zip (b1 := b1) (b2 := b2) (us.map V.int) (ws.map V.int) (by rw [List.length_map, List.length_map, hl]) (fun i σ H' => ∃ y3 y4, σ = [some (.ref a1), some (.ref a2), some (.int (pre (List.zipWith (· * ·) us ws) i)), y3, y4] ∧ Same H H')
      h1 h2 ⟨none, none, by rw [pre_zero]; rfl, Same.refl _⟩ (fun i σ H' _ ⟨_, _, _, sm⟩ => ⟨sm.sq h1, sm.sq h2⟩) ?_ ?_
    · rintro i x y T' σ H' hi hx hy ⟨y3, y4, rfl, sm⟩ hT
      obtain ⟨rfl, hi1⟩ := vec_at hx
      obtain ⟨rfl, hi2⟩ := vec_at hy
      refine w_pair (Sq.tup upd_same) ?_
      have hb := hB _ (nth_mem (ns := us) (i := ((i : Nat) : Int)) (by omega) (by omega))
      walk_at "go"
      have e := pre_succ (ns := List.zipWith (· * ·) us ws) (j := i) (by rw [List.length_zipWith]; omega)
      rw [nth_zip hi1 hi2] at e
      exact ⟨_, _, by rw [e]; rfl, sm.trans (Same.new hT)⟩
    · rintro σ H' ⟨y3, y4, rfl, sm⟩
      walk_at "go"
      rw [show (us.map V.int).length = (List.zipWith (· * ·) us ws).length by rw [List.length_map, List.length_zipWith, hl, Nat.min_self], pre_all]
      exact k _ sm

/-! ### the net's own methods -/
def sp_Net_rest (K : PySem.W.Frag) (C : Addr) : Sp := fun vs H Q _ => ∃ (p : Addr) (nd : NetD) (e : V) (n : Int), vs = [.ref p, .int n] ∧ IsNet K C H p nd e ∧ 0 < nd.p ∧ Q (.int (n % nd.p)) H
theorem ok_Net_rest (T : Txt K mg) : FnOk P w K mg base CX0 1 T.a_Net_rest T.d_Net_rest ["self", "number"] (sp_Net_rest K T.c_Net) := by
  refine T.F_Net_rest.ok sc_Net_rest (fun vs H Q E h => ?_) (fun cdv A outer s H vs Q E hr h => ?_)
  · obtain ⟨_, _, _, _, rfl, _⟩ := h
    rfl
  · obtain ⟨p, nd, e, n, rfl, ⟨dx, v1, v2, v3, v4, h0, _⟩, hp, k⟩ := h
    have cN := T.C_Net
    have n1 := T.n_Net_prime
    unfold netF at h0
    refine ⟨_, (pss_one (ps_ret (pe_op op_mod (pe_callTy cr_int1 (by rfl) T.z_int (by decide +kernel) (pa_cons (pv 1) pa_nil)) (k_fld (K := K) rfl (pv 0) rfl)))), ?_⟩
    refine go_start (σ' := [some (.ref p), some (.int n)]) rfl ?_
    try dsimp only [cxOf, Cx.nox, Cx.wish]
    walk_at "go"
    exact k
def sp_Net_plus (K : PySem.W.Frag) (C : Addr) : Sp := fun vs H Q _ => ∃ (p : Addr) (nd : NetD) (e v1 v2 : V) (us ws : List Int), vs = [.ref p, v1, v2] ∧ IsNet K C H p nd e ∧ 0 < nd.p ∧ RVecX K H v1 us ∧ RVecX K H v2 ws ∧ us.length = ws.length ∧ us.length ≤ 1000 ∧
  ∀ v' H', Same H H' → RVec false K H' v' (vplus nd.p us ws) → Q v' H'
theorem ok_Net_plus (T : Txt K mg) : FnOk P w K mg base CX0 2 T.a_Net_plus T.d_Net_plus ["self", "one", "two"] (sp_Net_plus K T.c_Net) := by
  refine T.F_Net_plus.ok sc_Net_plus (fun vs H Q E h => ?_) (fun cdv A outer s H vs Q E hr h => ?_)
  · obtain ⟨_, _, _, _, _, _, _, rfl, _⟩ := h
    rfl
  · obtain ⟨p, nd, e, v1, v2, us, ws, rfl, hN, hp, ⟨b1, a1, rfl, h1⟩, ⟨b2, a2, rfl, h2⟩, hl, hz, k⟩ := h
    obtain ⟨dx, _, _, _, _, h0, _⟩ := id hN
    unfold netF at h0
    refine ⟨_, (pss_one (ps_ret (pe_callTy (k_tupS (K := K) rfl) (by rfl) T.z_tuple (by decide +kernel) (pa_cons (pe_lc (own := [("number", 3), ("other", 4)]) (g := gTup K 2 (gCons (gName 3) (gCons (gName 4) (gNil)))) (tt := tYes) rfl sc_Net_plus.nd (k_zipS (K := K) rfl (by rfl) T.z_zip (pa_cons (pv 1) (pa_cons (pv 2) pa_nil))) (blkOk_by (own := [("number", 3), ("other", 4)]) (by kernel_rfl)) (fun _ _ _ _ _ => (k_tup (K := K) rfl rfl (pgs_cons (pg_name (i := 3) sc_Net_plus.nd rfl (by first | exact Or.inl rfl | exact Or.inr rfl)) (pgs_cons (pg_name (i := 4) sc_Net_plus.nd rfl (by first | exact Or.inl rfl | exact Or.inr rfl)) pgs_nil)))) (fun _ _ _ _ _ => pts_nil) (fun _ _ _ _ _ => (pe_meth (pv 0) T.C_Net T.m_Net_rest (ok_Net_rest T) (hr.mono (by decide)) T.b_Net_rest .nil pass0 (pa_cons (pe_op (k_addG (K := K) rfl) (pv 3) (pv 4)) pa_nil)))) pa_nil)))), ?_⟩
    refine go_start (σ' := [some (.ref p), some (.ref a1), some (.ref a2), none, none]) rfl ?_
    try dsimp only [cxOf, Cx.nox, Cx.wish]
    walk_at "go"
    refine c_intsZ (us.map V.int) (ws.map V.int) (by rw [List.length_map, List.length_map, hl]) h1 h2 (vplus nd.p us ws) (by rw [vplus_len hl, List.length_map]) (line_of (by rw [List.length_map]; omega)) rfl (fun _ _ => rfl) (fun i x y H1 N hi hx hy sm hN2 => ?_) (fun D H' hD sm e2 => ?_)
    · obtain ⟨rfl, hi1⟩ := vec_at hx
      obtain ⟨rfl, hi2⟩ := vec_at hy
      walk_at "go"
      refine ⟨p, nd, e, _, rfl, hN.mono sm, hp, ?_⟩
      have en : nth (vplus nd.p us ws) ((i : Nat) : Int) = (nth us (i : Nat) + nth ws (i : Nat)) % nd.p := nth_zip hi1 hi2
      rw [← en]
      exact hN2 _ (Same.refl _)
    · walk_at "go"
      refine w_tupL (Sq.lst e2) fun l hl2 => ?_
      walk_at "go"
      exact k _ _ (sm.trans (Same.new hl2)) ⟨l, rfl, Sq.tup upd_same⟩
def sp_Net_times (K : PySem.W.Frag) (C : Addr) : Sp := fun vs H Q _ => ∃ (p : Addr) (nd : NetD) (e v1 v2 : V) (M : Mat) (x : List Int), vs = [.ref p, v1, v2] ∧ IsNet K C H p nd e ∧ 0 < nd.p ∧ RMat K H v1 M ∧ RVecX K H v2 x ∧ (∀ r ∈ M, r.length = x.length ∧ Bd r) ∧ M.length ≤ 1000 ∧
  ∀ v' H', Same H H' → RVec false K H' v' (vtimes nd.p M x) → Q v' H'
theorem ok_Net_times (T : Txt K mg) : FnOk P w K mg base CX0 2 T.a_Net_times T.d_Net_times ["self", "matrix", "vector"] (sp_Net_times K T.c_Net) := by
  refine T.F_Net_times.ok sc_Net_times (fun vs H Q E h => ?_) (fun cdv A outer s H vs Q E hr h => ?_)
  · obtain ⟨_, _, _, _, _, _, _, rfl, _⟩ := h
    rfl
  · obtain ⟨p, nd, e, v1, v2, M, x, rfl, hN, hp, ⟨a1, xs, rfl, h1, hl1, hr1⟩, hx, hM, hz, k⟩ := h
    obtain ⟨dx, _, _, _, _, h0, _⟩ := id hN
    unfold netF at h0
    refine ⟨_, (pss_one (ps_ret (pe_callTy (k_tupS (K := K) rfl) (by rfl) T.z_tuple (by decide +kernel) (pa_cons (pe_lc (own := [("row", 3)]) (g := gName 3) (tt := tYes) rfl sc_Net_times.nd (k_seqS (K := K) rfl (pv 1)) (blkOk_by (own := [("row", 3)]) (by kernel_rfl)) (fun _ _ _ _ _ => (pg_name (i := 3) sc_Net_times.nd rfl (by first | exact Or.inl rfl | exact Or.inr rfl))) (fun _ _ _ _ _ => pts_nil) (fun _ _ _ _ _ => (pe_meth (pv 0) T.C_Net T.m_Net_rest (ok_Net_rest T) (hr.mono (by decide)) T.b_Net_rest .nil pass0 (pa_cons (pe_call (ok_product_sum T) (hr.mono (by decide)) (by rfl) T.g_product_sum T.F_product_sum.kp T.b_product_sum .nil pass0 (pa_cons (pv 3) (pa_cons (pv 2) pa_nil))) pa_nil)))) pa_nil)))), ?_⟩
    refine go_start (σ' := [some (.ref p), some (.ref a1), some v2, none]) rfl ?_
    try dsimp only [cxOf, Cx.nox, Cx.wish]
    walk_at "go"
    refine c_ints xs h1 (vtimes nd.p M x) (by rw [vtimes_len, hl1]) (line_of (by omega)) (fun _ => rfl) (fun i y H1 N hi hy sm hN2 => ?_) (fun D H' hD sm e2 => ?_)
    · have hd : M[i]? = some (M[i]'(by omega)) := List.getElem?_eq_getElem (by omega)
      obtain ⟨hm1, hm2⟩ := hM _ (List.mem_of_getElem? hd)
      walk_at "go"
      refine ⟨_, _, _, x, rfl, ⟨false, RVec.mono _ _ _ _ sm (hr1 i y _ hy hd)⟩, RVecX.mono _ _ _ _ sm hx, hm1, hm2, fun H2 s2 => ?_⟩
      refine ⟨p, nd, e, _, rfl, (hN.mono sm).mono s2, hp, ?_⟩
      rw [← nth_mapG (f := fun r => dot r x % nd.p) hd]
      exact hN2 _ s2
    · walk_at "go"
      refine w_tupL (Sq.lst e2) fun l hl2 => ?_
      walk_at "go"
      exact k _ _ (sm.trans (Same.new hl2)) ⟨l, rfl, Sq.tup upd_same⟩
def sp_Net_looked_at (K : PySem.W.Frag) (C : Addr) : Sp := fun vs H Q _ => ∃ (p : Addr) (nd : NetD) (e v1 v2 : V) (q : List Int) (prs : List PairD) (b : Bool), vs = [.ref p, v1, v2] ∧ IsNet K C H p nd e ∧ 0 < nd.p ∧ RVec false K H v1 q ∧ RSeq b K (RPr K) H v2 prs ∧ Bd q ∧ q.length ≤ 1000 ∧ prs.length ≤ 100000 ∧
  (∀ o ∈ prs, o.1.length = q.length ∧ o.2.length = q.length ∧ Bd o.2) ∧ ∀ v' H', Same H H' → RVec false K H' v' (looked nd.p q prs (zeros q)) → Q v' H'
theorem looked_take {p : Int} {q : List Int} {prs : List PairD} {f : List Int} {i : Nat} {o : PairD} (h : prs[i]? = some o) : looked p q (prs.take (i + 1)) f = vplus p (looked p q (prs.take i) f) (o.2.map fun n => dot q o.1 * n) := by
  unfold looked
  rw [List.take_add_one, h, List.foldl_append]
  rfl
theorem ok_Net_looked_at (T : Txt K mg) : FnOk P w K mg base CX0 3 T.a_Net_looked_at T.d_Net_looked_at ["self", "query", "pairs"] (sp_Net_looked_at K T.c_Net) := by
  refine T.F_Net_looked_at.ok sc_Net_looked_at (fun vs H Q E h => ?_) (fun cdv A outer s H vs Q E hr h => ?_)
  · obtain ⟨_, _, _, _, _, _, _, _, rfl, _⟩ := h
    rfl
  · obtain ⟨p, nd, e, v1, v2, q, prs, b, rfl, hN, hp, ⟨a1, rfl, h1⟩, ⟨a2, ys, rfl, h2, hl2, hr2⟩, hB, hz, hz2, ho, k⟩ := h
    refine ⟨_, (pss_cons (ps_set (i := 3) sc_Net_looked_at.nd rfl (Or.inl rfl) (pe_callTy (k_tupS (K := K) rfl) (by rfl) T.z_tuple (by decide +kernel) (pa_cons (pe_lc (own := [("_", 7)]) (g := gName 7) (tt := tYes) rfl sc_Net_looked_at.nd (k_seqS (K := K) rfl (pv 1)) (blkOk_by (own := [("_", 7)]) (by kernel_rfl)) (fun _ _ _ _ _ => (pg_name (i := 7) sc_Net_looked_at.nd rfl (by first | exact Or.inl rfl | exact Or.inr rfl))) (fun _ _ _ _ _ => pts_nil) (fun _ _ _ _ _ => pe_int)) pa_nil)))
      (pss_cons (ps_for PassesOwn.never rfl (k_seqS (K := K) rfl (pv 2)) (k_tup (K := K) rfl rfl (pgs_cons (pg_name (i := 4) sc_Net_looked_at.nd rfl (Or.inl rfl)) (pgs_cons (pg_name (i := 5) sc_Net_looked_at.nd rfl (Or.inl rfl)) pgs_nil)))
      (pss_cons (ps_set (i := 6) sc_Net_looked_at.nd rfl (Or.inr rfl) (pe_call (ok_product_sum T) (hr.mono (by decide)) (by rfl) T.g_product_sum T.F_product_sum.kp T.b_product_sum .nil pass0 (pa_cons (pv 1) (pa_cons (pv 4) pa_nil))))
      (pss_one (ps_set (i := 3) sc_Net_looked_at.nd rfl (Or.inl rfl) (pe_meth (pv 0) T.C_Net T.m_Net_plus (ok_Net_plus T) (hr.mono (by decide)) T.b_Net_plus .nil pass0 (pa_cons (pv 3) (pa_cons (pe_lc (own := [("number", 8)]) (g := gName 8) (tt := tYes) rfl sc_Net_looked_at.nd (k_seqS (K := K) rfl (pv 5)) (blkOk_by (own := [("number", 8)]) (by kernel_rfl)) (fun _ _ _ _ _ => (pg_name (i := 8) sc_Net_looked_at.nd rfl (by first | exact Or.inl rfl | exact Or.inr rfl))) (fun _ _ _ _ _ => pts_nil) (fun _ _ _ _ _ => (pe_op op_mul (pv 6) (pv 8)))) pa_nil)))))))
      (pss_one (ps_ret (pv 3))))), ?_⟩
    refine go_start (σ' := [some (.ref p), some (.ref a1), some (.ref a2), none, none, none, none, none, none]) rfl ?_
    try dsimp only [cxOf, Cx.nox, Cx.wish]
    walk_at "go"
    refine c_ints (q.map V.int) h1 (zeros q) (by rw [zeros_len, List.length_map]) (line_of (by rw [List.length_map]; omega)) (fun _ => rfl) (fun i y H1 N hi hy sm hN2 => ?_) (fun D H1 hD s1 e2 => ?_)
    · rw [List.length_map] at hi
      walk_at "go"
      have ez : nth (zeros q) ((i : Nat) : Int) = 0 := nth_map hi
      rw [← ez]
      exact hN2 _ (Same.refl _)
    walk_at "go"
    refine w_tupL (Sq.lst e2) fun l hl => ?_
    have s2 : Same H (upd H1 l (.tup ((zeros q).map V.int))) := s1.trans (Same.new hl)
    walk_at "go"
    refine l_seq (b := b) ys (fun i σ H' => ∃ (f : Addr) (y4 y5 y6 y7 y8 : Option V), σ = [some (.ref p), some (.ref a1), some (.ref a2), some (.ref f), y4, y5, y6, y7, y8] ∧ Sq false K H' f ((looked nd.p q (prs.take i) (zeros q)).map V.int) ∧ Same H H')
      (s2.sq h2) ⟨l, none, none, none, none, none, rfl, Sq.tup upd_same, s2⟩ (fun i σ H' _ ⟨_, _, _, _, _, _, _, _, sm⟩ => sm.sq h2) ?_ ?_
    · rintro i y σ H' hi hy ⟨f, y4, y5, y6, y7, y8, rfl, hf, sm⟩
      have hd : prs[i]? = some (prs[i]'(by omega)) := List.getElem?_eq_getElem (by omega)
      generalize prs[i]'(by omega) = o at hd
      obtain ⟨ho1, ho2, ho3⟩ := ho o (List.mem_of_getElem? hd)
      obtain ⟨ap, k1, k2, rfl, hp2, ⟨ak, rfl, hk⟩, ⟨av, rfl, hv⟩⟩ := RPr.mono _ _ _ _ sm (hr2 i y o hy hd)
      refine w_pair hp2 ?_
      walk_at "go"
      refine ⟨_, _, q, o.1, rfl, ⟨false, a1, rfl, sm.sq h1⟩, ⟨false, ak, rfl, hk⟩, ho1.symm, hB, fun H3 s3 => ?_⟩
      walk_at "go"
      obtain ⟨dx, _, _, _, _, h0, _⟩ := id ((hN.mono sm).mono s3)
      unfold netF at h0
      walk_at "go"
      refine c_ints (o.2.map V.int) (s3.sq hv) (o.2.map fun n => dot q o.1 * n) (by rw [List.length_map, List.length_map]) (line_of (by rw [List.length_map]; omega)) (fun _ => rfl) (fun j z H4 N hj hz4 s4 hN2 => ?_) (fun D4 H4 hD4 s4 e4 => ?_)
      · obtain ⟨rfl, hj1⟩ := vec_at hz4
        have hb := ho3 _ (nth_mem (ns := o.2) (i := ((j : Nat) : Int)) (by omega) (by omega))
        walk_at "go"
        rw [← nth_map (f := fun n => dot q o.1 * n) hj1]
        exact hN2 _ (Same.refl _)
      · have hll : (looked nd.p q (prs.take i) (zeros q)).length = q.length := by
          rw [looked_len, zeros_len]
          intro kv hk2
          rw [zeros_len]
          exact (ho kv (List.mem_of_mem_take hk2)).2.1
        walk_at "go"
        refine ⟨p, nd, e, _, _, _, _, rfl, ((hN.mono sm).mono s3).mono s4, hp, ⟨false, f, rfl, s4.sq (s3.sq hf)⟩, ⟨true, D4, rfl, Sq.lst e4⟩, by rw [hll, List.length_map, ho2], by omega, fun v' H5 s5 ⟨f5, e5, hf5⟩ => ?_⟩
        subst e5
        walk_at "go"
        refine ⟨f5, _, _, _, _, _, rfl, ?_, ((sm.trans s3).trans s4).trans s5⟩
        rw [looked_take hd]
        exact hf5
    · rintro σ H' ⟨f, y4, y5, y6, y7, y8, rfl, hf, sm⟩
      walk_at "go"
      refine k _ _ sm ⟨f, rfl, ?_⟩
      rw [show ys.length = prs.length from hl2, List.take_length] at hf
      exact hf
def sp_Net_is_letter (K : PySem.W.Frag) (C : Addr) : Sp := fun vs H Q _ => ∃ (p : Addr) (nd : NetD) (e : V) (l : Int), vs = [.ref p, .int l] ∧ IsNet K C H p nd e ∧ Q (.bl (decide (0 ≤ l ∧ l ≤ (nd.emb.length : Int) - 1))) H
theorem ok_Net_is_letter (T : Txt K mg) : FnOk P w K mg base CX0 2 T.a_Net_is_letter T.d_Net_is_letter ["self", "value"] (sp_Net_is_letter K T.c_Net) := by
  refine T.F_Net_is_letter.ok sc_Net_is_letter (fun vs H Q E h => ?_) (fun cdv A outer s H vs Q E hr h => ?_)
  · obtain ⟨_, _, _, _, rfl, _⟩ := h
    rfl
  · obtain ⟨p, nd, e, l, rfl, ⟨dx, v1, v2, v3, v4, h0, ⟨a1, xs, rfl, h1, hl1, _⟩, _⟩, k⟩ := h
    have cN := T.C_Net
    have n1 := T.n_Net_embed
    unfold netF at h0
    refine ⟨_, (pss_one (ps_ret (pe_call (ok_is_between T) (hr.mono (by decide)) (by rfl) T.g_is_between T.F_is_between.kp T.b_is_between .nil pass0 (pa_cons (pv 1) (pa_cons pe_int (pa_cons (pe_op op_sub (pe_callB (k_lenS (K := K) rfl) (by rfl) T.z_len (by decide +kernel) (pa_cons (k_fld (K := K) rfl (pv 0) rfl) pa_nil)) pe_int) pa_nil)))))), ?_⟩
    refine go_start (σ' := [some (.ref p), some (.int l)]) rfl ?_
    try dsimp only [cxOf, Cx.nox, Cx.wish]
    walk_at "go"
    exact ⟨_, _, _, _, rfl, .inl ⟨l, rfl, rfl⟩, by rw [hl1]; exact k⟩

/-! ### a row -/
theorem five_of {L : List Mat} (h : L.length = 5) : L = [mt L 0, mt L 1, mt L 2, mt L 3, mt L 4] := by
  match L, h with
  | [a, b, c, d, e], _ => rfl
theorem mat_bd {p : Int} {w : Nat} {M : Mat} (hp : p ≤ 97) (h : MatOk p w M) {x : List Int} (hx : x.length = w) : ∀ r ∈ M, r.length = x.length ∧ Bd r := fun r hr => ⟨by rw [(h r hr).1, hx], (h r hr).2.bd hp⟩
def sp_Net_row (K : PySem.W.Frag) (C : Addr) : Sp := fun vs H Q _ => ∃ (p : Addr) (nd : NetD) (e v : V) (b : Bool) (rows : List RowD) (l w : Nat), vs = [.ref p, v, .int (l : Nat)] ∧ IsNet K C H p nd e ∧ NetOk nd w ∧ RSeq b K (RRow K) H v rows ∧ (∀ r ∈ rows, RowOk nd w r) ∧ rows.length ≤ 1000 ∧ l < nd.emb.length ∧
  ∀ v' H', Same H H' → RRow K H' v' (rowD nd rows l) → Q v' H'
theorem ok_Net_row (T : Txt K mg) : FnOk P w K mg base CX0 4 T.a_Net_row T.d_Net_row ["self", "rows", "letter"] (sp_Net_row K T.c_Net) := by
  refine T.F_Net_row.ok sc_Net_row (fun vs H Q E h => ?_) (fun cdv A outer s H vs Q E hr h => ?_)
  · obtain ⟨_, _, _, _, _, _, _, _, rfl, _⟩ := h
    rfl
  · obtain ⟨p, nd, e, v, b, rows, l, wd, rfl, hN, ok, ⟨ar, rvs, rfl, hR, hRl, hRr⟩, hro, hrz, hl, k⟩ := h
    have cN := T.C_Net
    have n1 := T.n_Net_embed
    have n2 := T.n_Net_shift
    have n3 := T.n_Net_layers
    have n4 := T.n_Net_out
    have hp0 : 0 < nd.p := by have := ok.p2; omega
    have w4 := ok.w4
    obtain ⟨dx, v1, v2, v3, v4, h0, hE, ⟨ash, rfl, hSh⟩, hLay, hOut⟩ := id hN
    obtain ⟨ae, evs, rfl, hE1, hEl, hEr⟩ := hE
    obtain ⟨al, lvs, rfl, hL1, hLl, hLr⟩ := hLay
    obtain ⟨ao, ovs, rfl, hO1, hOl, hOr⟩ := hOut
    unfold netF at h0
    refine ⟨_, (pss_cons (ps_if (pt_not (k_tru (K := K) rfl (pe_meth (pv 0) T.C_Net T.m_Net_is_letter (ok_Net_is_letter T) (hr.mono (by decide)) T.b_Net_is_letter .nil pass0 (pa_cons (pv 2) pa_nil)) (by intro _; rfl))) (pss_one ps_never) pss_nil)
      (pss_cons (ps_set (i := 3) sc_Net_row.nd rfl (Or.inr rfl) (pe_meth (pv 0) T.C_Net T.m_Net_plus (ok_Net_plus T) (hr.mono (by decide)) T.b_Net_plus .nil pass0 (pa_cons (pe_ix (k_ix (K := K) rfl) (k_fld (K := K) rfl (pv 0) rfl) (pv 2) (fun _ _ => rfl)) (pa_cons (pe_lc (own := [("number", 15)]) (g := gName 15) (tt := tYes) rfl sc_Net_row.nd (k_seqS (K := K) rfl (k_fld (K := K) rfl (pv 0) rfl)) (blkOk_by (own := [("number", 15)]) (by kernel_rfl)) (fun _ _ _ _ _ => (pg_name (i := 15) sc_Net_row.nd rfl (by first | exact Or.inl rfl | exact Or.inr rfl))) (fun _ _ _ _ _ => pts_nil) (fun _ _ _ _ _ => (pe_op op_mul (pe_callB (k_lenS (K := K) rfl) (by rfl) T.z_len (by decide +kernel) (pa_cons (pv 1) pa_nil)) (pv 15)))) pa_nil))))
      (pss_cons (ps_set (i := 4) sc_Net_row.nd rfl (Or.inl rfl) (pe_lst pa_nil))
      (pss_cons (ps_for PassesOwn.never rfl (k_enumS (K := K) rfl (by rfl) T.z_enumerate (pa_cons (k_fld (K := K) rfl (pv 0) rfl) pa_nil)) (k_tup (K := K) rfl rfl (pgs_cons (pg_name (i := 5) sc_Net_row.nd rfl (Or.inr rfl)) (pgs_cons (k_tup (K := K) rfl rfl (pgs_cons (pg_name (i := 6) sc_Net_row.nd rfl (Or.inl rfl)) (pgs_cons (pg_name (i := 7) sc_Net_row.nd rfl (Or.inl rfl)) (pgs_cons (pg_name (i := 8) sc_Net_row.nd rfl (Or.inl rfl)) (pgs_cons (pg_name (i := 9) sc_Net_row.nd rfl (Or.inl rfl)) (pgs_cons (pg_name (i := 10) sc_Net_row.nd rfl (Or.inl rfl)) pgs_nil)))))) pgs_nil)))
      (pss_cons (ps_set (i := 11) sc_Net_row.nd rfl (Or.inl rfl) (pe_tup (pa_cons (pe_meth (pv 0) T.C_Net T.m_Net_times (ok_Net_times T) (hr.mono (by decide)) T.b_Net_times .nil pass0 (pa_cons (pv 7) (pa_cons (pv 3) pa_nil))) (pa_cons (pe_meth (pv 0) T.C_Net T.m_Net_times (ok_Net_times T) (hr.mono (by decide)) T.b_Net_times .nil pass0 (pa_cons (pv 8) (pa_cons (pv 3) pa_nil))) pa_nil))))
      (pss_cons (ps_set (i := 12) sc_Net_row.nd rfl (Or.inl rfl) (pe_op (k_addG (K := K) rfl) (pe_lc (own := [("row", 16)]) (g := gName 16) (tt := tYes) rfl sc_Net_row.nd (k_seqS (K := K) rfl (pv 1)) (blkOk_by (own := [("row", 16)]) (by kernel_rfl)) (fun _ _ _ _ _ => (pg_name (i := 16) sc_Net_row.nd rfl (by first | exact Or.inl rfl | exact Or.inr rfl))) (fun _ _ _ _ _ => pts_nil) (fun _ _ _ _ _ => (pe_ix (k_ix (K := K) rfl) (pe_ix (k_ix (K := K) rfl) (pv 16) pe_int (fun _ _ => rfl)) (pv 5) (fun _ _ => rfl)))) (pe_lst (pa_cons (pv 11) pa_nil))))
      (pss_cons (ps_set (i := 3) sc_Net_row.nd rfl (Or.inr rfl) (pe_meth (pv 0) T.C_Net T.m_Net_plus (ok_Net_plus T) (hr.mono (by decide)) T.b_Net_plus .nil pass0 (pa_cons (pv 3) (pa_cons (pe_meth (pv 0) T.C_Net T.m_Net_looked_at (ok_Net_looked_at T) (hr.mono (by decide)) T.b_Net_looked_at .nil pass0 (pa_cons (pe_meth (pv 0) T.C_Net T.m_Net_times (ok_Net_times T) (hr.mono (by decide)) T.b_Net_times .nil pass0 (pa_cons (pv 6) (pa_cons (pv 3) pa_nil))) (pa_cons (pv 12) pa_nil))) pa_nil))))
      (pss_cons (ps_set (i := 3) sc_Net_row.nd rfl (Or.inr rfl) (pe_meth (pv 0) T.C_Net T.m_Net_plus (ok_Net_plus T) (hr.mono (by decide)) T.b_Net_plus .nil pass0 (pa_cons (pv 3) (pa_cons (pe_meth (pv 0) T.C_Net T.m_Net_times (ok_Net_times T) (hr.mono (by decide)) T.b_Net_times .nil pass0 (pa_cons (pv 10) (pa_cons (pe_lc (own := [("number", 15)]) (g := gName 15) (tt := tYes) rfl sc_Net_row.nd (k_seqS (K := K) rfl (pe_meth (pv 0) T.C_Net T.m_Net_times (ok_Net_times T) (hr.mono (by decide)) T.b_Net_times .nil pass0 (pa_cons (pv 9) (pa_cons (pv 3) pa_nil)))) (blkOk_by (own := [("number", 15)]) (by kernel_rfl)) (fun _ _ _ _ _ => (pg_name (i := 15) sc_Net_row.nd rfl (by first | exact Or.inl rfl | exact Or.inr rfl))) (fun _ _ _ _ _ => pts_nil) (fun _ _ _ _ _ => (pe_op op_mul (pv 15) (pv 15)))) pa_nil))) pa_nil))))
      (pss_one (ps_expr (k_bm (K := K) rfl PySem.F.plainAttrs_list PySem.F.slot_list_append PySem.F.type_list_append mt_append (pv 4) (pa_cons (pv 11) pa_nil)))))))))
      (pss_cons (ps_setLc (i := 13) (own := [("vector", 14)]) (g := gName 14) (tt := tYes) rfl sc_Net_row.nd rfl rfl (sw_true rfl rfl rfl (by decide +kernel)) (k_seqS (K := K) rfl (k_fld (K := K) rfl (pv 0) rfl)) (blkOk_by (own := [("vector", 14)]) (by kernel_rfl)) (fun _ _ _ _ _ => (pg_name (i := 14) sc_Net_row.nd rfl (by first | exact Or.inl rfl | exact Or.inr rfl))) (fun _ _ _ _ _ => pts_nil) (fun _ _ _ _ _ => (pe_op (k_addG (K := K) rfl) pe_int (pe_meth (pv 0) T.C_Net T.m_Net_rest (ok_Net_rest T) (hr.mono (by decide)) T.b_Net_rest .nil pass0 (pa_cons (pe_call (ok_product_sum T) (hr.mono (by decide)) (by rfl) T.g_product_sum T.F_product_sum.kp T.b_product_sum .nil pass0 (pa_cons (pv 14) (pa_cons (pv 3) pa_nil))) pa_nil)))))
      (pss_one (ps_ret (pe_tup (pa_cons (pe_callTy (k_tupS (K := K) rfl) (by rfl) T.z_tuple (by decide +kernel) (pa_cons (pv 4) pa_nil)) (pa_cons (pe_callTy (k_tupS (K := K) rfl) (by rfl) T.z_tuple (by decide +kernel) (pa_cons (pv 13) pa_nil)) pa_nil)))))))))), ?_⟩
    refine go_start (σ' := [some (.ref p), some (.ref ar), some (.int (l : Nat)), none, none, none, none, none, none, none, none, none, none, none, none, none, none]) rfl ?_
    walk_at "go"
    refine ⟨p, nd, e, _, rfl, hN, ?_⟩
    walk_at "go"
    refine w_iteN (fun hc => absurd (show 0 ≤ ((l : Nat) : Int) ∧ ((l : Nat) : Int) ≤ (nd.emb.length : Int) - 1 by omega) hc) (fun _ => ?_)
    walk_at "go"
    have hel : nd.emb[l]? = some (nd.emb.getD l []) := by
      rw [List.getD_eq_getElem?_getD, List.getElem?_eq_getElem hl]
      rfl
    obtain ⟨ye, hye, ⟨aye, rfl, hye2⟩⟩ := RSeq.get hEl hEr hel
    have hew : (nd.emb.getD l []).length = wd := (ok.emb _ (List.mem_of_getElem? hel)).1
    refine w_ix hE1 (atI_nat hye) ?_
    walk_at "go"
    refine c_ints (nd.sh.map V.int) hSh (nd.sh.map fun n => (rows.length : Int) * n) (by rw [List.length_map, List.length_map]) (line_of (by rw [List.length_map, ok.sh.1]; omega)) (fun _ => rfl) (fun i y H1 N hi hy sm hN2 => ?_) (fun D H1 hD s1 e1 => ?_)
    · obtain ⟨rfl, hi1⟩ := vec_at hy
      have hb := ok.sh.2.bd ok.p97 _ (nth_mem (ns := nd.sh) (i := ((i : Nat) : Int)) (by omega) (by omega))
      walk_at "go"
      rw [hRl, ← nth_map (f := fun n => (rows.length : Int) * n) hi1]
      exact hN2 _ (Same.refl _)
    walk_at "go"
    refine ⟨p, nd, e, _, _, _, _, rfl, hN.mono s1, hp0, ⟨false, aye, rfl, s1.sq hye2⟩, ⟨true, D, rfl, Sq.lst e1⟩, by rw [hew, List.length_map, ok.sh.1], by omega, fun v' H2 s2 ⟨ax, ev, hx⟩ => ?_⟩
    subst ev
    walk_at "go"
    refine ⟨Nat.zero_le _, fun ol hol => ?_⟩
    have s12 := s1.trans s2
    have hx0 := startX_ok ok (rows := rows) hl
    have hxs : startX nd rows l = vplus nd.p (nd.emb.getD l []) (nd.sh.map fun n => (rows.length : Int) * n) := rfl
    walk_at "go"
    refine l_enum (b := false) lvs (fun i σ H' => ∃ (ax : Addr) (y5 y6 y7 y8 y9 y10 y11 y12 y13 y14 y15 y16 : Option V), σ = [some (.ref p), some (.ref ar), some (.int (l : Nat)), some (.ref ax), some (.ref ol), y5, y6, y7, y8, y9, y10, y11, y12, y13, y14, y15, y16] ∧
        RVec false K H' (.ref ax) (rowSt nd rows (startX nd rows l) i).2 ∧ Filled (RPr K) H2 H' ol (rowSt nd rows (startX nd rows l) i).1)
      ((s12.trans (Same.new hol)).sq hL1) ⟨ax, none, none, none, none, none, none, none, none, none, none, none, none, rfl, RVec.mono _ _ _ _ (Same.new hol) ⟨ax, rfl, by rw [show (rowSt nd rows (startX nd rows l) 0).2 = startX nd rows l from rfl, hxs]; exact hx⟩, Filled.nil hol⟩ ?_ ?_ ?_
    · rintro i σ H' hi ⟨_, _, _, _, _, _, _, _, _, _, _, _, _, _, _, f⟩
      exact (s12.trans f.same).sq hL1
    · rintro i y T' σ H' hi hy ⟨ax, y5, y6, y7, y8, y9, y10, y11, y12, y13, y14, y15, y16, rfl, hxv, f⟩ hT
      have hi' : i < nd.lay.length := by omega
      have hL : nd.lay[i]? = some (nd.lay.getD i []) := by
        rw [List.getD_eq_getElem?_getD, List.getElem?_eq_getElem hi']
        rfl
      generalize eL : nd.lay.getD i [] = L at hL
      obtain ⟨hL5, hLm⟩ := ok.lay L (List.mem_of_getElem? hL)
      obtain ⟨st1, st2, st3, st4⟩ := rowSt_ok ok hro hx0 i (by omega)
      generalize ex : (rowSt nd rows (startX nd rows l) i).2 = x at hxv st3 st4
      have sT : Same H' (upd H' T' (.tup [.int (i : Int), y])) := Same.new hT
      have f := f.mono RPr.mono sT
      have hxv := RVec.mono _ _ _ _ sT hxv
      have s3 := s12.trans f.same
      have hy5 := RSeq.mono RMat.mono _ _ _ _ s3 (hLr i y L hy hL)
      rw [five_of hL5] at hy5
      obtain ⟨a5, q0, q1, q2, q3, q4, rfl, h5, m0, m1, m2, m3, m4⟩ := RSeq.five hy5
      refine w_pairG (Sq.tup upd_same) ?_
      refine w_five h5 ?_
      have hM : ∀ j : Nat, j < 5 → (mt L j).length = wd ∧ MatOk nd.p wd (mt L j) := fun j hj => (mt_ok ⟨hL5, hLm⟩ hj).2
      have p97 := ok.p97
      -- pair
      walk_at "go"
      refine ⟨p, nd, e, _, _, _, x, rfl, hN.mono s3, hp0, m1, ⟨false, hxv⟩, mat_bd p97 (hM 1 (by omega)).2 st3, by rw [(hM 1 (by omega)).1]; omega, fun vk H4 s4 rk => ?_⟩
      walk_at "go"
      refine ⟨p, nd, e, _, _, _, x, rfl, (hN.mono s3).mono s4, hp0, RMat.mono _ _ _ _ s4 m2, ⟨false, RVec.mono _ _ _ _ s4 hxv⟩, mat_bd p97 (hM 2 (by omega)).2 st3, by rw [(hM 2 (by omega)).1]; omega, fun vv H5 s5 rv => ?_⟩
      walk_at "go"
      refine ⟨(by show 2 ≤ sizeLine; decide), fun ap hap => ?_⟩
      walk_at "go"
      have s6 : Same H5 (upd H5 ap (.tup [vk, vv])) := Same.new hap
      have hpair : RPr K (upd H5 ap (.tup [vk, vv])) (.ref ap) (pairOf nd.p L x) := ⟨ap, vk, vv, rfl, Sq.tup upd_same, RVec.mono _ _ _ _ (s5.trans s6) rk, RVec.mono _ _ _ _ s6 rv⟩
      have s36 := (s4.trans s5).trans s6
      generalize upd H5 ap (.tup [vk, vv]) = H6 at s6 hpair s36 ⊢
      have f6 := f.mono RPr.mono s36
      have s06 := s3.trans s36
      -- pairs
      refine c_rep (R := RPr K) RPr.mono RPr.tup rvs (s06.sq hR) (prsAt rows i) (by unfold prsAt; rw [List.length_map, hRl]) (line_of (by omega)) (fun _ => rfl) (fun j z d H7 N hj hz hd s7 hN2 => ?_) (fun D7 H7 ys hD7 s7 e7 hyl hyr => ?_)
      · have hrj : rows[j]? = some (rows[j]'(by omega)) := List.getElem?_eq_getElem (by omega)
        generalize rows[j]'(by omega) = r at hrj
        have ed : d = r.1.getD i ([], []) := by
          unfold prsAt at hd
          rw [List.getElem?_map, hrj] at hd
          exact (Option.some.inj hd).symm
        obtain ⟨az, z1, z2, rfl, hz1, ⟨ap1, pvs, rfl, hp1, hpl, hpr⟩, _⟩ := RRow.mono _ _ _ _ (s06.trans s7) (hRr j z r hz hrj)
        have hr1 : r.1[i]? = some (r.1.getD i ([], [])) := by
          rw [List.getD_eq_getElem?_getD, List.getElem?_eq_getElem (by rw [(hro r (List.mem_of_getElem? hrj)).1]; exact hi')]
          rfl
        obtain ⟨yp, hyp, rp⟩ := RSeq.get hpl hpr hr1
        walk_at "go"
        refine w_ix hz1 (atI_nat (j := 0) rfl) ?_
        walk_at "go"
        refine w_ix hp1 (atI_nat hyp) ?_
        exact hN2 _ _ (Same.refl _) (by rw [ed]; exact rp)
      walk_at "go"
      refine ⟨(by show 1 ≤ sizeLine; decide), fun b1 hb1 => ?_⟩
      have s8 := s7.trans (Same.new (o := .lst [.ref ap]) hb1)
      have hlen7 : ys.length = rows.length := by rw [hyl]; exact List.length_map ..
      refine w_catLL (Same.at (Same.new hb1) e7) upd_same (by rw [sizeLine_eq]; simp only [List.length_cons, List.length_nil]; omega) fun b2 hb2 => ?_
      walk_at "go"
      have s9 := s8.trans (Same.new (o := .lst (ys ++ [.ref ap])) hb2)
      have hprs : RSeq true K (RPr K) (upd (upd H7 b1 (.lst [.ref ap])) b2 (.lst (ys ++ [.ref ap]))) (.ref b2) (prsAt rows i ++ [pairOf nd.p L x]) := by
        refine ⟨b2, _, rfl, Sq.lst upd_same, by rw [List.length_append, List.length_append, hyl]; rfl, fun j y' d' h1 h2 => ?_⟩
        by_cases hj : j < ys.length
        · rw [List.getElem?_append_left hj] at h1
          rw [List.getElem?_append_left (by omega)] at h2
          exact RPr.mono _ _ _ _ ((Same.new hb1).trans (Same.new hb2)) (hyr j y' d' h1 h2)
        · have h3 := (List.getElem?_eq_some_iff.mp h1).1
          rw [List.length_append] at h3
          have ej : j = ys.length := by
            have : j < ys.length + 1 := h3
            omega
          subst ej
          rw [List.getElem?_append_right (Nat.le_refl _), Nat.sub_self] at h1
          rw [hyl, List.getElem?_append_right (Nat.le_refl _), Nat.sub_self] at h2
          cases h1
          cases h2
          exact RPr.mono _ _ _ _ s9 hpair
      generalize upd (upd H7 b1 (.lst [.ref ap])) b2 (.lst (ys ++ [.ref ap])) = H9 at s9 hprs ⊢
      have s39 := s36.trans s9
      have s09 := s3.trans s39
      have f9 := f6.mono RPr.mono s9
      have hx9 := RVec.mono _ _ _ _ s39 hxv
      have hprok := prsAt_ok hro (i := i) hi'
      have hpo := pairOf_ok (x := x) hp0 ⟨hL5, hLm⟩
      -- x = plus(x, looked_at(times(query, x), pairs))
      refine ⟨p, nd, e, _, _, _, x, rfl, hN.mono s09, hp0, RMat.mono _ _ _ _ s39 m0, ⟨false, hx9⟩, mat_bd p97 (hM 0 (by omega)).2 st3, by rw [(hM 0 (by omega)).1]; omega, fun vq H10 s10 rq => ?_⟩
      walk_at "go"
      refine ⟨p, nd, e, _, _, _, _, true, rfl, (hN.mono s09).mono s10, hp0, rq, RSeq.mono RPr.mono _ _ _ _ s10 hprs, (vtimes_sml hp0 _ _).bd p97, by rw [vtimes_len, (hM 0 (by omega)).1]; omega, by rw [List.length_append]; unfold prsAt; rw [List.length_map]; simp only [List.length_cons, List.length_nil]; omega, fun o ho => ?_, fun vl H11 s11 rl => ?_⟩
      · rw [vtimes_len, (hM 0 (by omega)).1]
        rcases List.mem_append.mp ho with h | h
        · exact ⟨(hprok o h).1.1, (hprok o h).2.1, (hprok o h).2.2.bd p97⟩
        · rw [List.mem_singleton.mp h]; exact ⟨hpo.1.1, hpo.2.1, hpo.2.2.bd p97⟩
      walk_at "go"
      have hmid : (looked nd.p (vtimes nd.p (mt L 0) x) (prsAt rows i ++ [pairOf nd.p L x]) (zeros (vtimes nd.p (mt L 0) x))).length = wd := by
        rw [looked_len, zeros_len, vtimes_len, (hM 0 (by omega)).1]
        intro kv hk
        rw [zeros_len, vtimes_len, (hM 0 (by omega)).1]
        rcases List.mem_append.mp hk with h | h
        · exact (hprok kv h).2.1
        · rw [List.mem_singleton.mp h]; exact hpo.2.1
      have s911 := s10.trans s11
      refine ⟨p, nd, e, _, _, _, _, rfl, (hN.mono s09).mono s911, hp0, ⟨false, RVec.mono _ _ _ _ s911 hx9⟩, ⟨false, rl⟩, by rw [st3, hmid], by omega, fun vm H12 s12' rm => ?_⟩
      walk_at "go"
      have rm : RVec false K H12 vm (midOf nd.p L (prsAt rows i) x) := rm
      have hml := midOf_len (x := x) hp0 ⟨hL5, hLm⟩ hprok st3
      have s912 := s911.trans s12'
      have s012 := s09.trans s912
      have s312 := s39.trans s912
      -- x = plus(x, times(second, [number * number for number in times(first, x)]))
      refine ⟨p, nd, e, _, _, _, _, rfl, hN.mono s012, hp0, RMat.mono _ _ _ _ s312 m3, ⟨false, rm⟩, mat_bd p97 (hM 3 (by omega)).2 hml, by rw [(hM 3 (by omega)).1]; omega, fun vf H13 s13 rf => ?_⟩
      walk_at "go"
      obtain ⟨af, rfl, hf2⟩ := rf
      refine c_ints ((vtimes nd.p (mt L 3) (midOf nd.p L (prsAt rows i) x)).map V.int) hf2 (sqOf nd.p L (midOf nd.p L (prsAt rows i) x)) (by unfold sqOf; rw [List.length_map, List.length_map]) (line_of (by rw [List.length_map, vtimes_len, (hM 3 (by omega)).1]; omega)) (fun _ => rfl) (fun j z H14 N hj hz s14 hN2 => ?_) (fun D14 H14 hD14 s14 e14 => ?_)
      · obtain ⟨rfl, hj1⟩ := vec_at hz
        have hb := (vtimes_sml (p := nd.p) hp0 (mt L 3) (midOf nd.p L (prsAt rows i) x)).bd p97 _ (nth_mem (i := ((j : Nat) : Int)) (by omega) (by omega))
        walk_at "go"
        have en : nth (sqOf nd.p L (midOf nd.p L (prsAt rows i) x)) ((j : Nat) : Int) = nth (vtimes nd.p (mt L 3) (midOf nd.p L (prsAt rows i) x)) (j : Nat) * nth (vtimes nd.p (mt L 3) (midOf nd.p L (prsAt rows i) x)) (j : Nat) := nth_map (f := fun a => a * a) hj1
        rw [← en]
        exact hN2 _ (Same.refl _)
      walk_at "go"
      have hsl : (sqOf nd.p L (midOf nd.p L (prsAt rows i) x)).length = wd := by unfold sqOf; rw [List.length_map, vtimes_len, (hM 3 (by omega)).1]
      have s1214 := s13.trans s14
      refine ⟨p, nd, e, _, _, _, _, rfl, (hN.mono s012).mono s1214, hp0, RMat.mono _ _ _ _ (s312.trans s1214) m4, ⟨true, D14, rfl, Sq.lst e14⟩, mat_bd p97 (hM 4 (by omega)).2 hsl, by rw [(hM 4 (by omega)).1]; omega, fun vt H15 s15 rt => ?_⟩
      walk_at "go"
      have s1215 := s1214.trans s15
      refine ⟨p, nd, e, _, _, _, _, rfl, (hN.mono s012).mono s1215, hp0, ⟨false, RVec.mono _ _ _ _ s1215 rm⟩, ⟨false, rt⟩, by rw [hml, vtimes_len, (hM 4 (by omega)).1], by omega, fun vz H16 s16 rz => ?_⟩
      walk_at "go"
      have s1216 := s1215.trans s16
      have f16 := (f9.mono RPr.mono s912).mono RPr.mono s1216
      have hp16 : RPr K H16 (.ref ap) (pairOf nd.p L x) := RPr.mono _ _ _ _ ((s9.trans s912).trans s1216) hpair
      obtain ⟨ys16, e16, hl16, _⟩ := f16.at_
      obtain ⟨ys', e', hl', fp⟩ := f16.push (RPr.tup _ _ _ _ (NTup.lst e16) hp16)
      have eys : ys' = ys16 := by
        rw [e16] at e'
        cases e'
        rfl
      subst eys
      refine w_tyL (Sq.lst e16) ?_
      walk_at "go"
      refine w_append e16 (line_of (by rw [hl16, st1]; have := ok.l3; omega)) ?_
      walk_at "go"
      obtain ⟨az, rfl, hz16⟩ := rz
      refine ⟨az, _, _, _, _, _, _, _, _, _, _, _, _, rfl, ?_, ?_⟩
      · have h1 : (rowSt nd rows (startX nd rows l) (i + 1)).2 = nextOf nd.p L (prsAt rows i) x := by
          show nextOf nd.p (nd.lay.getD i []) (prsAt rows i) (rowSt nd rows (startX nd rows l) i).2 = _
          rw [eL, ex]
        rw [h1]
        exact RTup.upd RVec.tup RVec.mono (NTup.lst e16) ⟨az, rfl, hz16⟩
      · have h1 : (rowSt nd rows (startX nd rows l) (i + 1)).1 = (rowSt nd rows (startX nd rows l) i).1 ++ [pairOf nd.p L x] := by
          show (rowSt nd rows (startX nd rows l) i).1 ++ [pairOf nd.p (nd.lay.getD i []) (rowSt nd rows (startX nd rows l) i).2] = _
          rw [eL, ex]
        rw [h1]
        exact fp
    · rintro σ H' ⟨ax, y5, y6, y7, y8, y9, y10, y11, y12, y13, y14, y15, y16, rfl, hxv, f⟩
      rw [hLl] at hxv f
      obtain ⟨st1, st2, st3, st4⟩ := rowSt_ok ok hro hx0 nd.lay.length (Nat.le_refl _)
      have s3 := s12.trans f.same
      walk_at "go"
      have e3 : (lastSt nd rows l).2 = (rowSt nd rows (startX nd rows l) nd.lay.length).2 := rfl
      rw [← e3] at hxv st3
      refine c_ints ovs (s3.sq hO1) (rowD nd rows l).2 (by show (nd.out.map _).length = _; rw [List.length_map, hOl]) (line_of (by have := ok.o12; omega)) (fun _ => rfl) (fun j y H4 N hj hy s4 hN2 => ?_) (fun D4 H4 hD4 s4 e4 => ?_)
      · have hd : nd.out[j]? = some (nd.out[j]'(by omega)) := List.getElem?_eq_getElem (by omega)
        have ho := ok.out _ (List.mem_of_getElem? hd)
        walk_at "go"
        refine ⟨_, _, _, _, rfl, ⟨false, RVec.mono _ _ _ _ (s3.trans s4) (hOr j y _ hy hd)⟩, ⟨false, RVec.mono _ _ _ _ s4 hxv⟩, by rw [ho.1, st3], ho.2.bd ok.p97, fun H5 s5 => ?_⟩
        refine ⟨p, nd, e, _, rfl, (hN.mono (s3.trans s4)).mono s5, hp0, ?_⟩
        walk_at "go"
        have en : nth (rowD nd rows l).2 ((j : Nat) : Int) = 1 + dot (nd.out[j]'(by omega)) (lastSt nd rows l).2 % nd.p := nth_mapG (f := fun v => 1 + dot v (lastSt nd rows l).2 % nd.p) hd
        rw [← en]
        exact hN2 _ s5
      walk_at "go"
      have f4 := f.mono RPr.mono s4
      obtain ⟨a4, ys4, e4', hS4, hl4, hr4⟩ := f4.seq RPr.mono (K := K)
      cases e4'
      refine w_tupL hS4 fun t1 ht1 => ?_
      walk_at "go"
      have s5 : Same H4 (upd H4 t1 (.tup ys4)) := Same.new ht1
      refine w_tupL (Sq.lst (s5 _ _ e4)) fun t2 ht2 => ?_
      walk_at "go"
      have s6 : Same (upd H4 t1 (.tup ys4)) (upd (upd H4 t1 (.tup ys4)) t2 (.tup ((rowD nd rows l).2.map V.int))) := Same.new ht2
      refine ⟨(by show 2 ≤ sizeLine; decide), fun t3 ht3 => ?_⟩
      walk_at "go"
      have s7 := Same.new (o := .tup [.ref t1, .ref t2]) ht3
      refine k _ _ (((s3.trans s4).trans (s5.trans s6)).trans s7) ⟨t3, .ref t1, .ref t2, rfl, Sq.tup upd_same, ⟨t1, ys4, rfl, ((s6.trans s7).sq (Sq.tup upd_same)), hl4, fun i y d h1 h2 => RPr.mono _ _ _ _ ((s5.trans s6).trans s7) (hr4 i y d h1 h2)⟩, ⟨t2, rfl, s7.sq (Sq.tup upd_same)⟩⟩

/-! ### rows of letters, a net made -/
theorem rowsD_snoc (nd : NetD) (l : Nat) : ∀ (ls : List Nat) (acc : List RowD), rowsD nd (ls ++ [l]) acc = rowsD nd ls acc ++ [rowD nd (rowsD nd ls acc) l]
  | [], acc => rfl
  | a :: r, acc => rowsD_snoc nd l r (acc ++ [rowD nd acc a])
theorem rowsD_len (nd : NetD) : ∀ (ls : List Nat) (acc : List RowD), (rowsD nd ls acc).length = acc.length + ls.length
  | [], acc => rfl
  | a :: r, acc => by
    show (rowsD nd r (acc ++ [rowD nd acc a])).length = acc.length + (r.length + 1)
    rw [rowsD_len nd r, List.length_append, List.length_singleton]
    omega
theorem rowsD_ok {nd : NetD} {w : Nat} (ok : NetOk nd w) : ∀ (ls : List Nat) (acc : List RowD), (∀ l ∈ ls, l < nd.emb.length) → (∀ r ∈ acc, RowOk nd w r) → ∀ r ∈ rowsD nd ls acc, RowOk nd w r
  | [], acc, _, h => h
  | a :: r, acc, hl, h => rowsD_ok ok r _ (fun l hm => hl l (List.mem_cons_of_mem _ hm)) fun x hx => by
    rcases List.mem_append.mp hx with h1 | h1
    · exact h x h1
    · rw [List.mem_singleton.mp h1]; exact rowD_ok ok h (hl a (List.mem_cons_self ..))
def natI (ls : List Nat) : List Int := ls.map fun l => ((l : Nat) : Int)
theorem natI_len (ls : List Nat) : (natI ls).length = ls.length := List.length_map ..
theorem natI_at {ls : List Nat} {i : Nat} {y : V} (h : ((natI ls).map V.int)[i]? = some y) : ∃ l, ls[i]? = some l ∧ y = .int (l : Nat) := by
  rw [natI, List.map_map, List.getElem?_map] at h
  cases e : ls[i]? with
  | none => rw [e] at h; cases h
  | some l => rw [e] at h; exact ⟨l, rfl, (Option.some.inj h).symm⟩

def lastW (rows : List RowD) : List Int := (rows.getLastD ([], [])).2
theorem last_atV {α : Type} {xs : List α} {x : α} {n : Nat} (h : xs[n]? = some x) (hn : xs.length = n + 1) : atI xs (-1) = some x := by
  unfold atI ixN
  rw [if_neg (by decide), if_pos (by omega)]
  show xs[(-1 + ((xs.length : Nat) : Int)).toNat]? = _
  rw [show (-1 + ((xs.length : Nat) : Int)).toNat = n by omega]
  exact h
def primes : List Int := [2, 3, 5, 7, 11, 13, 17, 19, 23, 29, 31, 37, 41, 43, 47, 53, 59, 61, 67, 71, 73, 79, 83, 89, 97]
theorem prime_in {p : Int} (h : p ∈ primes) : (if true = true then !inV (.int p) (primes.map V.int) else inV (.int p) (primes.map V.int)) = false := by
  rw [if_pos rfl]
  have : inV (.int p) (primes.map V.int) = true := by
    unfold inV
    exact List.any_eq_true.mpr ⟨.int p, List.mem_map.mpr ⟨p, h, rfl⟩, by rw [eqV_int]; exact beq_self_eq_true p⟩
  rw [this]
  rfl
theorem prime_between {p : Int} (h : p ∈ primes) : 2 ≤ p ∧ p ≤ 97 := by
  simp only [primes, List.mem_cons, List.not_mem_nil, or_false] at h
  omega
def sp_Net___init__ (K : PySem.W.Frag) (C : Addr) : Sp := fun vs H Q _ => ∃ (p dx : Addr) (nd : NetD) (v1 v2 v3 v4 e : V), vs = [.ref p, .int nd.p, v1, v2, v3, v4, e] ∧ H p = some (.ins C dx []) ∧ nd.p ∈ primes ∧
  RMatX K (hide p H) v1 nd.emb ∧ RVecX K (hide p H) v2 nd.sh ∧ RLayX K (hide p H) v3 nd.lay ∧ RMatX K (hide p H) v4 nd.out ∧ nd.emb.length ≤ 1000 ∧ nd.out.length ≤ 1000 ∧ nd.lay.length ≤ 1000 ∧ (∀ L ∈ nd.lay, L.length ≤ 1000 ∧ ∀ M ∈ L, M.length ≤ 1000) ∧
  ∀ H', Same (hide p H) (hide p H') → IsNet K C H' p nd e → Q .non H'
theorem ok_Net___init__ (T : Txt K mg) : FnOk P w K mg base CX0 3 T.a_Net___init__ T.d_Net___init__ ["self", "prime", "embed", "shift", "layers", "out", "end"] (sp_Net___init__ K T.c_Net) := by
  refine T.F_Net___init__.ok sc_Net___init__ (fun vs H Q E h => ?_) (fun cdv A outer s H vs Q E hr h => ?_)
  · obtain ⟨_, _, _, _, _, _, _, _, rfl, _⟩ := h
    rfl
  · obtain ⟨p, dx, nd, v1, v2, v3, v4, e, rfl, h0, hpr, f1, f2, f3, f4, z1, z2, z3, z4, k⟩ := h
    have cN := T.C_Net
    have n0 := T.n_Net_prime
    have n1 := T.n_Net_embed
    have n2 := T.n_Net_shift
    have n3 := T.n_Net_layers
    have n4 := T.n_Net_out
    have n5 := T.n_Net_end
    have hb := prime_between hpr
    refine ⟨_, (pss_cons (ps_if (PW.pt (pw_or (pt_not (k_tru (K := K) rfl (pe_call (ok_is_between T) (hr.mono (by decide)) (by rfl) T.g_is_between T.F_is_between.kp T.b_is_between .nil pass0 (pa_cons (pv 1) (pa_cons pe_int (pa_cons pe_int pa_nil)))) (by intro _; rfl))) (pw_or1 (pt_cmpR (k_notInS (K := K) rfl) (pv 1) (pe_glob (v := .ref T.k_PRIMES) (by rfl) T.gk_PRIMES rfl) rfl)))) (pss_one ps_never) pss_nil)
      (pss_cons (k_sfld (K := K) rfl (pv 0) (pv 1) rfl)
      (pss_cons (k_sfld (K := K) rfl (pv 0) (pe_call (ok_matrix_of T) (hr.mono (by decide)) (by rfl) T.g_matrix_of T.F_matrix_of.kp T.b_matrix_of .nil pass0 (pa_cons (pv 2) pa_nil)) rfl)
      (pss_cons (k_sfld (K := K) rfl (pv 0) (pe_call (ok_vector_of T) (hr.mono (by decide)) (by rfl) T.g_vector_of T.F_vector_of.kp T.b_vector_of .nil pass0 (pa_cons (pv 3) pa_nil)) rfl)
      (pss_cons (k_sfld (K := K) rfl (pv 0) (pe_callTy (k_tupS (K := K) rfl) (by rfl) T.z_tuple (by decide +kernel) (pa_cons (pe_lc (own := [("layer", 7)]) (g := gName 7) (tt := tYes) rfl sc_Net___init__.nd (k_seqS (K := K) rfl (pv 4)) (blkOk_by (own := [("layer", 7)]) (by kernel_rfl)) (fun _ _ _ _ _ => (pg_name (i := 7) sc_Net___init__.nd rfl (by first | exact Or.inl rfl | exact Or.inr rfl))) (fun _ _ _ _ _ => pts_nil) (fun _ _ _ _ _ => (pe_callTy (k_tupS (K := K) rfl) (by rfl) T.z_tuple (by decide +kernel) (pa_cons (pe_lc (own := [("matrix", 8)]) (g := gName 8) (tt := tYes) rfl sc_Net___init__.nd (k_seqS (K := K) rfl (pv 7)) (blkOk_by (own := [("matrix", 8)]) (by kernel_rfl)) (fun _ _ _ _ _ => (pg_name (i := 8) sc_Net___init__.nd rfl (by first | exact Or.inl rfl | exact Or.inr rfl))) (fun _ _ _ _ _ => pts_nil) (fun _ _ _ _ _ => (pe_call (ok_matrix_of T) (hr.mono (by decide)) (by rfl) T.g_matrix_of T.F_matrix_of.kp T.b_matrix_of .nil pass0 (pa_cons (pv 8) pa_nil)))) pa_nil)))) pa_nil)) rfl)
      (pss_cons (k_sfld (K := K) rfl (pv 0) (pe_call (ok_matrix_of T) (hr.mono (by decide)) (by rfl) T.g_matrix_of T.F_matrix_of.kp T.b_matrix_of .nil pass0 (pa_cons (pv 5) pa_nil)) rfl)
      (pss_one (k_sfld (K := K) rfl (pv 0) (pv 6) rfl)))))))), ?_⟩
    refine go_start (σ' := [some (.ref p), some (.int nd.p), some v1, some v2, some v3, some v4, some e, none, none]) rfl ?_
    walk_at "go"
    refine ⟨_, _, _, _, rfl, .inl ⟨_, rfl, rfl⟩, ?_⟩
    rw [decide_eq_true hb]
    walk_at "go"
    refine w_notInS (b := false) (T.tk_PRIMES H) rfl rfl ?_
    have ep := prime_in hpr
    rw [show (primes.map V.int) = [.int 2, .int 3, .int 5, .int 7, .int 11, .int 13, .int 17, .int 19, .int 23, .int 29, .int 31, .int 37, .int 41, .int 43, .int 47, .int 53, .int 59, .int 61, .int 67, .int 71, .int 73, .int 79, .int 83, .int 89, .int 97] from rfl] at ep
    rw [ep]
    walk_at "go"
    -- self.embed
    have b1 : Same (hide p H) (hide p (upd H p (.ins T.c_Net dx [("prime", .int nd.p)]))) := by rw [hide_upd]; exact Same.refl _
    refine ⟨_, _, rfl, RMatX.mono _ _ _ _ (b1.trans (hide_same _ _)) f1, by omega, fun u1 H1 s1 r1 => ?_⟩
    have g1 := s1 p _ upd_same
    have b2 := b1.trans (hide_mono s1)
    have r1 := RMat.tup _ _ _ _ (NTup.ins g1) r1
    walk_at "go"
    -- self.shift
    have b3 : Same (hide p H1) (hide p (upd H1 p (.ins T.c_Net dx [("prime", .int nd.p), ("embed", u1)]))) := by rw [hide_upd]; exact Same.refl _
    refine ⟨_, _, rfl, RVecX.mono _ _ _ _ ((b2.trans b3).trans (hide_same _ _)) f2, fun u2 H2 s2 r2 => ?_⟩
    have g2 := s2 p _ upd_same
    have b4 := b3.trans (hide_mono s2)
    have r2 := RVec.tup _ _ _ _ (NTup.ins g2) r2
    have r1 := RMat.mono _ _ _ _ b4 r1
    have b5 := b2.trans b4
    walk_at "go"
    -- self.layers
    have b6 : Same (hide p H2) (hide p (upd H2 p (.ins T.c_Net dx [("prime", .int nd.p), ("embed", u1), ("shift", u2)]))) := by rw [hide_upd]; exact Same.refl _
    generalize eH3 : upd H2 p (.ins T.c_Net dx [("prime", .int nd.p), ("embed", u1), ("shift", u2)]) = H3 at b6 ⊢
    have g3 : H3 p = some (.ins T.c_Net dx [("prime", .int nd.p), ("embed", u1), ("shift", u2)]) := by rw [← eH3, upd_same]
    obtain ⟨bl, al, lvs, rfl, hL1, hLl, hLr⟩ := RLayX.mono _ _ _ _ ((b5.trans b6).trans (hide_same _ _)) f3
    refine c_rep (R := RSeq false K (RMat K)) (RSeq.mono RMat.mono) (RSeq.tup RMat.tup) lvs hL1 nd.lay hLl.symm (line_of (by omega)) (fun _ => rfl) (fun i y L H4 N hi hy hL s4 hN2 => ?_) (fun D4 H4 ys hD4 s4 e4 hyl hyr => ?_)
    · obtain ⟨zl1, zl2⟩ := z4 L (List.mem_of_getElem? hL)
      obtain ⟨b', aL, ms, rfl, hm1, hml, hmr⟩ := hLr i y L hy hL
      walk_at "go"
      refine c_rep (R := RMat K) RMat.mono RMat.tup ms (s4.sq hm1) L hml.symm (line_of (by omega)) (fun _ => rfl) (fun j z M H5 N2 hj hz hM s5 hN3 => ?_) (fun D5 H5 zs hD5 s5 e5 hzl hzr => ?_)
      · walk_at "go"
        exact ⟨_, _, rfl, RMatX.mono _ _ _ _ (s4.trans s5) (hmr j z M hz hM), by have := zl2 M (List.mem_of_getElem? hM); omega, fun v' H6 s6 r6 => hN3 v' H6 s6 r6⟩
      · walk_at "go"
        refine w_tupL (Sq.lst e5) fun t ht => ?_
        walk_at "go"
        exact hN2 _ _ (s5.trans (Same.new ht)) ⟨t, zs, rfl, Sq.tup upd_same, hzl, fun j z M h1 h2 => RMat.mono _ _ _ _ (Same.new ht) (hzr j z M h1 h2)⟩
    walk_at "go"
    refine w_tupL (Sq.lst e4) fun t ht => ?_
    have s5 := s4.trans (Same.new (o := .tup ys) ht)
    have g4 := s5 p _ g3
    have r3 : RSeq false K (RSeq false K (RMat K)) (upd H4 t (.tup ys)) (.ref t) nd.lay := ⟨t, ys, rfl, Sq.tup upd_same, hyl, fun i y L h1 h2 => RSeq.mono RMat.mono _ _ _ _ (Same.new ht) (hyr i y L h1 h2)⟩
    generalize upd H4 t (.tup ys) = H5 at s5 g4 r3 ⊢
    have r3 := RSeq.tup (RSeq.tup RMat.tup) _ _ _ _ (NTup.ins g4) r3
    have b7 := b6.trans (hide_mono s5)
    have r1 := RMat.mono _ _ _ _ b7 r1
    have r2 := RVec.mono _ _ _ _ b7 r2
    have b8 := b5.trans b7
    walk_at "go"
    -- self.out
    have b9 : Same (hide p H5) (hide p (upd H5 p (.ins T.c_Net dx [("prime", .int nd.p), ("embed", u1), ("shift", u2), ("layers", .ref t)]))) := by rw [hide_upd]; exact Same.refl _
    refine ⟨_, _, rfl, RMatX.mono _ _ _ _ ((b8.trans b9).trans (hide_same _ _)) f4, by omega, fun u4 H6 s6 r4 => ?_⟩
    have g6 := s6 p _ upd_same
    have b10 := b9.trans (hide_mono s6)
    have r4 := RMat.tup _ _ _ _ (NTup.ins g6) r4
    walk_at "go"
    refine k _ (by simp only [hide_upd]; exact b8.trans b10) ⟨dx, u1, u2, .ref t, u4, upd_same, ?_, ?_, ?_, ?_⟩
    · exact RMat.mono _ _ _ _ (hide_same p _) (by simp only [hide_upd]; exact RMat.mono _ _ _ _ b10 r1)
    · exact RVec.mono _ _ _ _ (hide_same p _) (by simp only [hide_upd]; exact RVec.mono _ _ _ _ b10 r2)
    · exact RSeq.mono (RSeq.mono RMat.mono) _ _ _ _ (hide_same p _) (by simp only [hide_upd]; exact RSeq.mono (RSeq.mono RMat.mono) _ _ _ _ b10 r3)
    · exact RMat.mono _ _ _ _ (hide_same p _) (by simp only [hide_upd]; exact r4)

/-! ### the law's own nets: numbers, rows, matrices -/
def RNet (K : PySem.W.Frag) : Rep NetD := fun H v nd => ∃ a v1 v2 v3 v4, v = .ref a ∧ Sq false K H a [.int nd.p, v1, v2, v3, v4] ∧ RMat K H v1 nd.emb ∧ RVec false K H v2 nd.sh ∧ RSeq false K (RSeq false K (RMat K)) H v3 nd.lay ∧ RMat K H v4 nd.out
theorem RNet.mono {K : PySem.W.Frag} : RMono (RNet K) := fun _ _ _ _ s ⟨a, v1, v2, v3, v4, e, h, h1, h2, h3, h4⟩ => ⟨a, v1, v2, v3, v4, e, s.sq h, RMat.mono _ _ _ _ s h1, RVec.mono _ _ _ _ s h2, RSeq.mono (RSeq.mono RMat.mono) _ _ _ _ s h3, RMat.mono _ _ _ _ s h4⟩
theorem RNet.tup {K : PySem.W.Frag} : RTup (RNet K) := fun _ _ _ _ s ⟨a, v1, v2, v3, v4, e, h, h1, h2, h3, h4⟩ => ⟨a, v1, v2, v3, v4, e, sq_hide s h, RMat.tup _ _ _ _ s h1, RVec.tup _ _ _ _ s h2, RSeq.tup (RSeq.tup RMat.tup) _ _ _ _ s h3, RMat.tup _ _ _ _ s h4⟩
def sp_L_vector (K : PySem.W.Frag) : Sp := fun vs H Q _ => ∃ (a : Addr) (ns : List Int) (b : Bool) (t w p : Int), vs = [.ref a, .int t, .int w, .int p] ∧ Sq b K H a (ns.map V.int) ∧ 0 < ns.length ∧ ns.length ≤ 1000 ∧ 0 ≤ t ∧ t ≤ 1000000 ∧ 0 ≤ w ∧ w ≤ 4 ∧ 2 ≤ p ∧ p ≤ 97 ∧
  ∀ v' H' (us : List Int), Same H H' → RVec false K H' v' us → us.length = w.toNat → Sml p us → Q v' H'
theorem sml_snoc {p : Int} (hp : 0 < p) {us : List Int} (h : Sml p us) (z : Int) : Sml p (us ++ [z % p]) := fun x hx => by
  rcases List.mem_append.mp hx with h1 | h1
  · exact h x h1
  · rw [List.mem_singleton.mp h1]
    exact ⟨Int.emod_nonneg _ (by omega), Int.emod_lt_of_pos _ hp⟩
theorem ok_L_vector (T : Txt K mg) : FnOk P w K mg base CX0 1 T.a_L_vector T.d_L_vector ["_law_numbers_here", "_law_at", "_law_width", "_law_prime"] (sp_L_vector K) := by
  refine T.F_L_vector.ok sc_L_vector (fun vs H Q E h => ?_) (fun cdv A outer s H vs Q E hr h => ?_)
  · obtain ⟨_, _, _, _, _, _, rfl, _⟩ := h
    rfl
  · obtain ⟨a, ns, b, t, wd, p, rfl, hS, hn0, hn1, t0, t1, w0, w1, p0, p1, k⟩ := h
    refine ⟨_, (pss_cons (ps_set (i := 4) sc_L_vector.nd rfl (Or.inl rfl) (pe_lst pa_nil))
      (pss_cons (ps_for PassesOwn.never rfl (pi_range2 rfl T.z_range (pa_cons (pv 1) (pa_cons (pe_op (k_addG (K := K) rfl) (pv 1) (pv 2)) pa_nil))) (pg_name (i := 5) sc_L_vector.nd rfl (Or.inl rfl))
      (pss_one (ps_expr (k_bm (K := K) rfl PySem.F.plainAttrs_list PySem.F.slot_list_append PySem.F.type_list_append mt_append (pv 4) (pa_cons (pe_op op_mod (pe_callTy cr_int1 (by rfl) T.z_int (by decide +kernel) (pa_cons (pe_op (k_addG (K := K) rfl) (pe_ix (k_ix (K := K) rfl) (pv 0) (pe_op op_mod (pe_callTy cr_int1 (by rfl) T.z_int (by decide +kernel) (pa_cons (pv 5) pa_nil)) (pe_callB (k_lenS (K := K) rfl) (by rfl) T.z_len (by decide +kernel) (pa_cons (pv 0) pa_nil))) (fun _ _ => rfl)) (pe_op op_mul pe_int (pe_op op_fdiv (pv 5) (pe_callB (k_lenS (K := K) rfl) (by rfl) T.z_len (by decide +kernel) (pa_cons (pv 0) pa_nil))))) pa_nil)) (pv 3)) pa_nil)))))
      (pss_one (ps_ret (pe_callTy (k_tupS (K := K) rfl) (by rfl) T.z_tuple (by decide +kernel) (pa_cons (pv 4) pa_nil)))))), ?_⟩
    refine go_start (σ' := [some (.ref a), some (.int t), some (.int wd), some (.int p), none, none]) rfl ?_
    try dsimp only [cxOf, Cx.nox, Cx.wish]
    walk_at "go"
    refine ⟨Nat.zero_le _, fun D hD => ?_⟩
    walk_at "go"
    refine l_range2 (fun i σ H' => ∃ (us : List Int) (y5 : Option V), σ = [some (.ref a), some (.int t), some (.int wd), some (.int p), some (.ref D), y5] ∧ us.length = i ∧ Sml p us ∧ Same H H' ∧ H' D = some (.lst (us.map V.int)))
      ⟨by omega, by omega, by omega, by omega⟩ ⟨[], none, rfl, rfl, fun x hx => by simp at hx, Same.new hD, upd_same⟩ ?_ ?_
    · rintro i σ H' hi ⟨us, y5, rfl, hl, hs, sm, hL⟩
      have hS' := sm.sq hS
      have hm0 : 0 ≤ (t + (i : Int)) % (ns.length : Int) := Int.emod_nonneg _ (by omega)
      have hm1 : (t + (i : Int)) % (ns.length : Int) < ns.length := Int.emod_lt_of_pos _ (by omega)
      walk_at "go"
      refine w_append hL (line_of (by rw [List.length_map]; omega)) ?_
      walk_at "go"
      refine ⟨us ++ [_], _, rfl, by rw [List.length_append, hl]; rfl, sml_snoc (by omega) hs _, Same.mut sm hD, by rw [upd_same, List.map_append]; rfl⟩
    · rintro σ H' ⟨us, y5, rfl, hl, hs, sm, hL⟩
      walk_at "go"
      refine w_tupL (Sq.lst hL) fun t1 ht1 => ?_
      walk_at "go"
      exact k _ _ us (sm.trans (Same.new ht1)) ⟨t1, rfl, Sq.tup upd_same⟩ (by omega) hs
def sp_L_dot (K : PySem.W.Frag) : Sp := fun vs H Q _ => ∃ (v1 v2 : V) (us ws : List Int) (p : Int), vs = [v1, v2, .int p] ∧ RVecX K H v1 us ∧ RVecX K H v2 ws ∧ us.length = ws.length ∧ us.length ≤ 1000 ∧ Bd us ∧ 0 < p ∧ Q (.int (dot us ws % p)) H
theorem ok_L_dot (T : Txt K mg) : FnOk P w K mg base CX0 1 T.a_L_dot T.d_L_dot ["_law_one", "_law_other", "_law_prime"] (sp_L_dot K) := by
  refine T.F_L_dot.ok sc_L_dot (fun vs H Q E h => ?_) (fun cdv A outer s H vs Q E hr h => ?_)
  · obtain ⟨_, _, _, _, _, rfl, _⟩ := h
    rfl
  · obtain ⟨v1, v2, us, ws, p, rfl, ⟨b1, a1, rfl, h1⟩, ⟨b2, a2, rfl, h2⟩, hl, hz, hB, hp, k⟩ := h
    refine ⟨_, (pss_cons (ps_set (i := 3) sc_L_dot.nd rfl (Or.inl rfl) pe_int)
      (pss_cons (ps_for PassesOwn.never rfl (pi_range1 rfl T.z_range (pa_cons (pe_callB (k_lenS (K := K) rfl) (by rfl) T.z_len (by decide +kernel) (pa_cons (pv 0) pa_nil)) pa_nil)) (pg_name (i := 4) sc_L_dot.nd rfl (Or.inl rfl))
      (pss_one (ps_set (i := 3) sc_L_dot.nd rfl (Or.inl rfl) (pe_op (k_addG (K := K) rfl) (pv 3) (pe_op op_mul (pe_ix (k_ix (K := K) rfl) (pv 0) (pv 4) (fun _ _ => rfl)) (pe_ix (k_ix (K := K) rfl) (pv 1) (pv 4) (fun _ _ => rfl)))))))
      (pss_one (ps_ret (pe_op op_mod (pe_callTy cr_int1 (by rfl) T.z_int (by decide +kernel) (pa_cons (pv 3) pa_nil)) (pv 2)))))), ?_⟩
    refine go_start (σ' := [some (.ref a1), some (.ref a2), some (.int p), none, none]) rfl ?_
    try dsimp only [cxOf, Cx.nox, Cx.wish]
    walk_at "go"
    refine l_range (fun i σ H' => ∃ y4, σ = [some (.ref a1), some (.ref a2), some (.int p), some (.int (pre (List.zipWith (· * ·) us ws) i)), y4] ∧ H' = H)
      (by omega) (by omega) ⟨none, by rw [pre_zero]; rfl, rfl⟩ ?_ ?_
    · rintro i σ H' hi ⟨y4, rfl, rfl⟩
      have hb := hB _ (nth_mem (ns := us) (i := ((i : Nat) : Int)) (by omega) (by omega))
      walk_at "go"
      have e := pre_succ (ns := List.zipWith (· * ·) us ws) (j := i) (by rw [List.length_zipWith]; omega)
      rw [nth_zip (by omega) (by omega)] at e
      exact ⟨_, by rw [e]; rfl, rfl⟩
    · rintro σ H' ⟨y4, rfl, rfl⟩
      walk_at "go"
      rw [show ((us.length : Nat) : Int).toNat = (List.zipWith (· * ·) us ws).length by rw [List.length_zipWith, hl, Nat.min_self]; omega, pre_all]
      exact k
def sp_L_times (K : PySem.W.Frag) : Sp := fun vs H Q _ => ∃ (v1 v2 : V) (M : Mat) (x : List Int) (p : Int), vs = [v1, v2, .int p] ∧ RMat K H v1 M ∧ RVecX K H v2 x ∧ (∀ r ∈ M, r.length = x.length ∧ Bd r) ∧ M.length ≤ 1000 ∧ x.length ≤ 1000 ∧ 0 < p ∧
  ∀ D H', H D = none → Same H H' → H' D = some (.lst ((vtimes p M x).map V.int)) → Q (.ref D) H'
theorem ok_L_times (T : Txt K mg) : FnOk P w K mg base CX0 2 T.a_L_times T.d_L_times ["_law_matrix", "_law_vector_here", "_law_prime"] (sp_L_times K) := by
  refine T.F_L_times.ok sc_L_times (fun vs H Q E h => ?_) (fun cdv A outer s H vs Q E hr h => ?_)
  · obtain ⟨_, _, _, _, _, rfl, _⟩ := h
    rfl
  · obtain ⟨v1, v2, M, x, p, rfl, ⟨a1, xs, rfl, h1, hl1, hr1⟩, hx, hM, hz, hxz, hp, k⟩ := h
    refine ⟨_, (pss_one (ps_ret (pe_lc (own := [("_law_row_here", 3)]) (g := gName 3) (tt := tYes) rfl sc_L_times.nd (k_seqS (K := K) rfl (pv 0)) (blkOk_by (own := [("_law_row_here", 3)]) (by kernel_rfl)) (fun _ _ _ _ _ => (pg_name (i := 3) sc_L_times.nd rfl (by first | exact Or.inl rfl | exact Or.inr rfl))) (fun _ _ _ _ _ => pts_nil) (fun _ _ _ _ _ => (pe_call (ok_L_dot T) (hr.mono (by decide)) (by rfl) T.g_L_dot T.F_L_dot.kp T.b_L_dot .nil pass0 (pa_cons (pv 3) (pa_cons (pv 1) (pa_cons (pv 2) pa_nil)))))))), ?_⟩
    refine go_start (σ' := [some (.ref a1), some v2, some (.int p), none]) rfl ?_
    try dsimp only [cxOf, Cx.nox, Cx.wish]
    walk_at "go"
    refine c_ints xs h1 (vtimes p M x) (by rw [vtimes_len, hl1]) (line_of (by omega)) (fun _ => rfl) (fun i y H1 N hi hy sm hN2 => ?_) (fun D H' hD sm e2 => ?_)
    · have hd : M[i]? = some (M[i]'(by omega)) := List.getElem?_eq_getElem (by omega)
      obtain ⟨hm1, hm2⟩ := hM _ (List.mem_of_getElem? hd)
      walk_at "go"
      refine ⟨_, _, _, x, p, rfl, ⟨false, RVec.mono _ _ _ _ sm (hr1 i y _ hy hd)⟩, RVecX.mono _ _ _ _ sm hx, hm1, by omega, hm2, hp, ?_⟩
      rw [← nth_mapG (f := fun r => dot r x % p) hd]
      exact hN2 _ (Same.refl _)
    · walk_at "go"
      exact k _ _ hD sm e2

/-! ### _law_net -/
def sp_L_net (K : PySem.W.Frag) : Sp := fun vs H Q _ => ∃ (a : Addr) (ns : List Int) (b : Bool) (L wd m p : Int), vs = [.ref a, .int L, .int wd, .int m, .int p] ∧ Sq b K H a (ns.map V.int) ∧ 0 < ns.length ∧ ns.length ≤ 1000 ∧ 1 ≤ L ∧ L ≤ 12 ∧ 1 ≤ wd ∧ wd ≤ 4 ∧ 0 ≤ m ∧ m ≤ 3 ∧ 2 ≤ p ∧ p ≤ 97 ∧
  ∀ v' H' (nd : NetD), Same H H' → RNet K H' v' nd → NetOk nd wd.toNat → nd.p = p → (nd.emb.length : Int) = L → nd.out.length = nd.emb.length → (nd.lay.length : Int) = m → Q v' H'
theorem matok_cut {p : Int} {w : Nat} {M : Mat} (h : MatOk p w M) (a n : Nat) : MatOk p w ((M.drop a).take n) := fun r hr => h r (List.mem_of_mem_drop (List.mem_of_mem_take hr))
theorem ok_L_net (T : Txt K mg) : FnOk P w K mg base CX0 2 T.a_L_net T.d_L_net ["_law_numbers_here", "_law_letters", "_law_width", "_law_many", "_law_prime"] (sp_L_net K) := by
  refine T.F_L_net.ok sc_L_net (fun vs H Q E h => ?_) (fun cdv A outer s H vs Q E hr h => ?_)
  · obtain ⟨_, _, _, _, _, _, _, rfl, _⟩ := h
    rfl
  · obtain ⟨a, ns, b, L, wd, m, p, rfl, hS, hn0, hn1, L0, L1, w0, w1, m0, m1, p0, p1, k⟩ := h
    refine ⟨_, (pss_cons (ps_set (i := 5) sc_L_net.nd rfl (Or.inl rfl) (pe_lst pa_nil))
      (pss_cons (ps_for PassesOwn.never rfl (pi_range1 rfl T.z_range (pa_cons (pe_op (k_addG (K := K) rfl) (pe_op (k_addG (K := K) rfl) (pe_op op_mul pe_int (pv 1)) pe_int) (pe_op op_mul (pe_op op_mul pe_int (pv 2)) (pv 3))) pa_nil)) (pg_name (i := 6) sc_L_net.nd rfl (Or.inl rfl))
      (pss_one (ps_expr (k_bm (K := K) rfl PySem.F.plainAttrs_list PySem.F.slot_list_append PySem.F.type_list_append mt_append (pv 5) (pa_cons (pe_call (ok_L_vector T) (hr.mono (by decide)) (by rfl) T.g_L_vector T.F_L_vector.kp T.b_L_vector .nil pass0 (pa_cons (pv 0) (pa_cons (pe_op op_mul (pv 6) (pv 2)) (pa_cons (pv 2) (pa_cons (pv 4) pa_nil))))) pa_nil)))))
      (pss_cons (ps_set (i := 7) sc_L_net.nd rfl (Or.inl rfl) (pe_lst pa_nil))
      (pss_cons (ps_for PassesOwn.never rfl (pi_range1 rfl T.z_range (pa_cons (pv 3) pa_nil)) (pg_name (i := 8) sc_L_net.nd rfl (Or.inl rfl))
      (pss_cons (ps_set (i := 9) sc_L_net.nd rfl (Or.inl rfl) (pe_lst pa_nil))
      (pss_cons (ps_for PassesOwn.never rfl (pi_range1 rfl T.z_range (pa_cons pe_int pa_nil)) (pg_name (i := 6) sc_L_net.nd rfl (Or.inl rfl))
      (pss_cons (ps_set (i := 10) sc_L_net.nd rfl (Or.inl rfl) (pe_op (k_addG (K := K) rfl) (pe_op (k_addG (K := K) rfl) (pe_op op_mul pe_int (pv 1)) pe_int) (pe_op op_mul (pv 2) (pe_op (k_addG (K := K) rfl) (pe_op op_mul pe_int (pv 8)) (pv 6)))))
      (pss_one (ps_expr (k_bm (K := K) rfl PySem.F.plainAttrs_list PySem.F.slot_list_append PySem.F.type_list_append mt_append (pv 9) (pa_cons (pe_callTy (k_tupS (K := K) rfl) (by rfl) T.z_tuple (by decide +kernel) (pa_cons (pe_slice (k_slG (K := K) rfl) (pv 5) (po_some (pv 10)) (po_some (pe_op (k_addG (K := K) rfl) (pv 10) (pv 2)))) pa_nil)) pa_nil))))))
      (pss_one (ps_expr (k_bm (K := K) rfl PySem.F.plainAttrs_list PySem.F.slot_list_append PySem.F.type_list_append mt_append (pv 7) (pa_cons (pe_callTy (k_tupS (K := K) rfl) (by rfl) T.z_tuple (by decide +kernel) (pa_cons (pv 9) pa_nil)) pa_nil)))))))
      (pss_one (ps_ret (pe_tup (pa_cons (pv 4) (pa_cons (pe_callTy (k_tupS (K := K) rfl) (by rfl) T.z_tuple (by decide +kernel) (pa_cons (pe_slice (k_slG (K := K) rfl) (pv 5) po_none (po_some (pv 1))) pa_nil)) (pa_cons (pe_ix (k_ix (K := K) rfl) (pv 5) (pe_op op_mul pe_int (pv 1)) (fun _ _ => rfl)) (pa_cons (pe_callTy (k_tupS (K := K) rfl) (by rfl) T.z_tuple (by decide +kernel) (pa_cons (pv 7) pa_nil)) (pa_cons (pe_callTy (k_tupS (K := K) rfl) (by rfl) T.z_tuple (by decide +kernel) (pa_cons (pe_slice (k_slG (K := K) rfl) (pv 5) (po_some (pv 1)) (po_some (pe_op op_mul pe_int (pv 1)))) pa_nil)) pa_nil)))))))))))), ?_⟩
    refine go_start (σ' := [some (.ref a), some (.int L), some (.int wd), some (.int m), some (.int p), none, none, none, none, none, none]) rfl ?_
    try dsimp only [cxOf, Cx.nox, Cx.wish]
    have hN : 0 ≤ 5 * wd * m ∧ 5 * wd * m ≤ 60 := by
      have h3 : m = 0 ∨ m = 1 ∨ m = 2 ∨ m = 3 := by omega
      rcases h3 with h | h | h | h <;> subst h <;> omega
    walk_at "go"
    refine ⟨Nat.zero_le _, fun D hD => ?_⟩
    walk_at "go"
    refine l_range (fun i σ H' => ∃ (M : Mat) (y6 : Option V), σ = [some (.ref a), some (.int L), some (.int wd), some (.int m), some (.int p), some (.ref D), y6, none, none, none, none] ∧ M.length = i ∧ MatOk p wd.toNat M ∧ Filled (RVec false K) H H' D M)
      (by omega) (by omega) ⟨[], none, rfl, rfl, List.forall_mem_nil _, Filled.nil hD⟩ ?_ ?_
    · rintro i σ H' hi ⟨M, y6, rfl, hl, hM, f⟩
      obtain ⟨ys, e1, hl1, _⟩ := f.at_
      have ht : 0 ≤ (i : Int) * wd ∧ (i : Int) * wd ≤ 1000000 := by
        have h3 : wd = 1 ∨ wd = 2 ∨ wd = 3 ∨ wd = 4 := by omega
        rcases h3 with h | h | h | h <;> subst h <;> omega
      walk_at "go"
      refine ⟨a, ns, b, _, wd, p, rfl, f.same.sq hS, hn0, hn1, ht.1, ht.2, by omega, by omega, p0, p1, fun v' H2 us s2 r2 hul hus => ?_⟩
      walk_at "go"
      have f2 := f.mono RVec.mono s2
      obtain ⟨ys2, e2, hl2, fp⟩ := f2.push (d := us) (RVec.tup _ _ _ _ (NTup.lst (s2 _ _ e1)) r2)
      refine w_append e2 (line_of (by rw [hl2]; omega)) ?_
      walk_at "go"
      refine ⟨M ++ [us], _, rfl, by rw [List.length_append, hl]; rfl, fun r hr => ?_, fp⟩
      rcases List.mem_append.mp hr with h | h
      · exact hM r h
      · rw [List.mem_singleton.mp h]; exact ⟨hul, hus⟩
    · rintro σ H1 ⟨M, y6, rfl, hMl, hM, f⟩
      obtain ⟨ys, e1, hyl, hyr⟩ := f.at_
      have hyr : ∀ (i : Nat) y d, ys[i]? = some y → M[i]? = some d → RVec false K H1 y d := fun i y d h1 h2 => RVec.mono _ _ _ _ (hide_same D H1) (hyr i y d h1 h2)
      have sH1 := f.same
      clear f
      walk_at "go"
      refine ⟨Nat.zero_le _, fun D2 hD2 => ?_⟩
      walk_at "go"
      refine l_range (fun i σ H' => ∃ (Ls : List (List Mat)) (y6 y8 y9 y10 : Option V), σ = [some (.ref a), some (.int L), some (.int wd), some (.int m), some (.int p), some (.ref D), y6, some (.ref D2), y8, y9, y10] ∧ Ls.length = i ∧ (∀ L ∈ Ls, L.length = 5 ∧ ∀ M ∈ L, M.length = wd.toNat ∧ MatOk p wd.toNat M) ∧ Filled (RSeq false K (RMat K)) H1 H' D2 Ls)
        (by omega) (by omega) ⟨[], _, _, _, _, rfl, rfl, List.forall_mem_nil _, Filled.nil hD2⟩ ?_ ?_
      · rintro i σ H2 hi ⟨Ls, y6, y8, y9, y10, rfl, hLl, hLs, f2⟩
        walk_at "go"
        refine ⟨Nat.zero_le _, fun D3 hD3 => ?_⟩
        walk_at "go"
        refine l_range (fun j σ H' => ∃ (Ms : List Mat) (y6 y10 : Option V), σ = [some (.ref a), some (.int L), some (.int wd), some (.int m), some (.int p), some (.ref D), y6, some (.ref D2), some (.int (i : Nat)), some (.ref D3), y10] ∧ Ms.length = j ∧ (∀ M ∈ Ms, M.length = wd.toNat ∧ MatOk p wd.toNat M) ∧ Filled (RMat K) H2 H' D3 Ms)
          (by omega) (by omega) ⟨[], _, _, rfl, rfl, List.forall_mem_nil _, Filled.nil hD3⟩ ?_ ?_
        · rintro j σ H3 hj ⟨Ms, y6, y10, rfl, hMsl, hMs, f3⟩
          obtain ⟨zs, e3, hzl, _⟩ := f3.at_
          have hf : 0 ≤ 2 * L + 1 + wd * (5 * (i : Int) + (j : Int)) ∧ 2 * L + 1 + wd * (5 * (i : Int) + (j : Int)) + wd ≤ (ys.length : Int) := by
            rw [hyl, hMl]
            have h3 : wd = 1 ∨ wd = 2 ∨ wd = 3 ∨ wd = 4 := by omega
            rcases h3 with h | h | h | h <;> subst h <;> omega
          have s13 := f2.same.trans f3.same
          have e1' := s13 _ _ e1
          walk_at "go"
          generalize 2 * L + 1 + wd * (5 * (i : Int) + (j : Int)) = fi at hf ⊢
          refine w_slC (Sq.lst e1') (cutV_int hf.1 (by omega) hf.2) fun q1 hq1 => ?_
          walk_at "go"
          have s4 := Same.new (o := .lst ((ys.drop fi.toNat).take ((fi + wd).toNat - fi.toNat))) hq1
          refine w_tupL (Sq.lst upd_same) fun q2 hq2 => ?_
          walk_at "go"
          have s5 := s4.trans (Same.new (o := .tup ((ys.drop fi.toNat).take ((fi + wd).toNat - fi.toNat))) hq2)
          have rM : RMat K (upd (upd H3 q1 (.lst ((ys.drop fi.toNat).take ((fi + wd).toNat - fi.toNat)))) q2 (.tup ((ys.drop fi.toNat).take ((fi + wd).toNat - fi.toNat)))) (.ref q2) ((M.drop fi.toNat).take ((fi + wd).toNat - fi.toNat)) :=
            ⟨q2, _, rfl, Sq.tup upd_same, by rw [List.length_take, List.length_take, List.length_drop, List.length_drop, hyl], rep_cut (fun i' y d h1 h2 => RVec.mono _ _ _ _ (s13.trans s5) (hyr i' y d h1 h2)) _ _⟩
          generalize upd (upd H3 q1 (.lst ((ys.drop fi.toNat).take ((fi + wd).toNat - fi.toNat)))) q2 (.tup ((ys.drop fi.toNat).take ((fi + wd).toNat - fi.toNat))) = H5 at s5 rM ⊢
          obtain ⟨zs2, e5, hl5, fp⟩ := (f3.mono RMat.mono s5).push (d := (M.drop fi.toNat).take ((fi + wd).toNat - fi.toNat)) (RMat.tup _ _ _ _ (NTup.lst (s5 _ _ e3)) rM)
          refine w_append e5 (line_of (by rw [hl5]; omega)) ?_
          walk_at "go"
          refine ⟨Ms ++ [_], _, _, rfl, by rw [List.length_append, hMsl]; rfl, fun M' hM' => ?_, fp⟩
          rcases List.mem_append.mp hM' with h | h
          · exact hMs M' h
          · rw [List.mem_singleton.mp h]
            refine ⟨?_, matok_cut hM _ _⟩
            rw [List.length_take, List.length_drop]
            omega
        · rintro σ H3 ⟨Ms, y6, y10, rfl, hMsl, hMs, f3⟩
          have f2' := f2.mono (RSeq.mono RMat.mono) f3.same
          obtain ⟨zs, e2, hzl, _⟩ := f2'.at_
          obtain ⟨a3, ms, ea, hm1, hm2, hm3⟩ := f3.seq RMat.mono (K := K)
          cases ea
          walk_at "go"
          refine w_tupL hm1 fun q2 hq2 => ?_
          walk_at "go"
          have s5 := Same.new (o := .tup ms) hq2
          obtain ⟨zs2, e5, hl5, fp⟩ := (f2'.mono (RSeq.mono RMat.mono) s5).push (d := Ms) (RSeq.tup RMat.tup _ _ _ _ (NTup.lst (s5 _ _ e2)) ⟨q2, ms, rfl, Sq.tup upd_same, hm2, fun i' y d h1 h2 => RMat.mono _ _ _ _ s5 (hm3 i' y d h1 h2)⟩)
          refine w_append e5 (line_of (by rw [hl5]; omega)) ?_
          walk_at "go"
          refine ⟨Ls ++ [Ms], _, _, _, _, rfl, by rw [List.length_append, hLl]; rfl, fun L' hL' => ?_, fp⟩
          rcases List.mem_append.mp hL' with h | h
          · exact hLs L' h
          · rw [List.mem_singleton.mp h]; exact ⟨by omega, hMs⟩
      · rintro σ H2 ⟨Ls, y6, y8, y9, y10, rfl, hLl, hLs, f2⟩
        have s12 := f2.same
        have e2 := s12 _ _ e1
        have hyl2 : (ys.length : Int) = 2 * L + 1 + 5 * wd * m := by rw [hyl, hMl]; omega
        obtain ⟨a3, ls, ea, hm1, hm2, hm3⟩ := f2.seq (RSeq.mono RMat.mono) (K := K)
        cases ea
        walk_at "go"
        refine w_slC (Sq.lst e2) (cutV_intTo (by omega) (by omega)) fun q1 hq1 => ?_
        walk_at "go"
        have t1 := Same.new (o := .lst (ys.take L.toNat)) hq1
        refine w_tupL (Sq.lst upd_same) fun q2 hq2 => ?_
        walk_at "go"
        have t2 := t1.trans (Same.new (o := .tup (ys.take L.toNat)) hq2)
        have r1 : RMat K (upd (upd H2 q1 (.lst (ys.take L.toNat))) q2 (.tup (ys.take L.toNat))) (.ref q2) (M.take L.toNat) :=
          ⟨q2, _, rfl, Sq.tup upd_same, by rw [List.length_take, List.length_take, hyl], rep_to (fun i' y d h1 h2 => RVec.mono _ _ _ _ (s12.trans t2) (hyr i' y d h1 h2)) _⟩
        generalize upd (upd H2 q1 (.lst (ys.take L.toNat))) q2 (.tup (ys.take L.toNat)) = H3 at t2 r1 ⊢
        have h2L : (2 * L).toNat < M.length := by omega
        have hsd : M[(2 * L).toNat]? = some (M[(2 * L).toNat]'h2L) := List.getElem?_eq_getElem h2L
        generalize M[(2 * L).toNat]'h2L = sh at hsd
        have hys : ys[(2 * L).toNat]? = some (ys[(2 * L).toNat]'(by omega)) := List.getElem?_eq_getElem (by omega)
        generalize ys[(2 * L).toNat]'(by omega) = ysh at hys
        have r2 := RVec.mono _ _ _ _ (s12.trans t2) (hyr _ _ _ hys hsd)
        refine w_ix (Sq.lst (t2 _ _ e2)) (v := ysh) (by rw [show (2 * L : Int) = (((2 * L).toNat : Nat) : Int) by omega]; exact atI_nat hys) ?_
        walk_at "go"
        refine w_tupL (t2.sq hm1) fun q3 hq3 => ?_
        walk_at "go"
        have t3 := t2.trans (Same.new (o := .tup ls) hq3)
        have r3 : RSeq false K (RSeq false K (RMat K)) (upd H3 q3 (.tup ls)) (.ref q3) Ls := ⟨q3, ls, rfl, Sq.tup upd_same, hm2, fun i' y d h1 h2 => RSeq.mono RMat.mono _ _ _ _ t3 (hm3 i' y d h1 h2)⟩
        have r1 := RMat.mono _ _ _ _ (Same.new (o := .tup ls) hq3) r1
        have r2 := RVec.mono _ _ _ _ (Same.new (o := .tup ls) hq3) r2
        generalize upd H3 q3 (.tup ls) = H4 at t3 r3 r1 r2 ⊢
        refine w_slC (Sq.lst (t3 _ _ e2)) (cutV_int (by omega) (by omega) (by omega)) fun q4 hq4 => ?_
        walk_at "go"
        have t4 := Same.new (o := .lst ((ys.drop L.toNat).take ((2 * L).toNat - L.toNat))) hq4
        refine w_tupL (Sq.lst upd_same) fun q5 hq5 => ?_
        walk_at "go"
        have t5 := t4.trans (Same.new (o := .tup ((ys.drop L.toNat).take ((2 * L).toNat - L.toNat))) hq5)
        have r4 : RMat K (upd (upd H4 q4 (.lst ((ys.drop L.toNat).take ((2 * L).toNat - L.toNat)))) q5 (.tup ((ys.drop L.toNat).take ((2 * L).toNat - L.toNat)))) (.ref q5) ((M.drop L.toNat).take ((2 * L).toNat - L.toNat)) :=
          ⟨q5, _, rfl, Sq.tup upd_same, by rw [List.length_take, List.length_take, List.length_drop, List.length_drop, hyl], rep_cut (fun i' y d h1 h2 => RVec.mono _ _ _ _ ((s12.trans t3).trans t5) (hyr i' y d h1 h2)) _ _⟩
        generalize upd (upd H4 q4 (.lst ((ys.drop L.toNat).take ((2 * L).toNat - L.toNat)))) q5 (.tup ((ys.drop L.toNat).take ((2 * L).toNat - L.toNat))) = H5 at t5 r4 ⊢
        refine ⟨(by show 5 ≤ sizeLine; decide), fun q6 hq6 => ?_⟩
        walk_at "go"
        have t6 := Same.new (o := .tup [.int p, .ref q2, ysh, .ref q3, .ref q5]) hq6
        have t56 := t5.trans t6
        have hel : (M.take L.toNat).length = L.toNat := by rw [List.length_take]; omega
        have hol : ((M.drop L.toNat).take ((2 * L).toNat - L.toNat)).length = L.toNat := by rw [List.length_take, List.length_drop]; omega
        refine k _ _ ⟨p, M.take L.toNat, sh, Ls, (M.drop L.toNat).take ((2 * L).toNat - L.toNat)⟩ (((sH1.trans s12).trans t3).trans t56)
          ⟨q6, _, _, _, _, rfl, Sq.tup upd_same, RMat.mono _ _ _ _ t56 r1, RVec.mono _ _ _ _ t56 r2, RSeq.mono (RSeq.mono RMat.mono) _ _ _ _ t56 r3, RMat.mono _ _ _ _ t6 r4⟩
          ⟨p0, p1, by omega, matok_cut hM 0 _, hM _ (List.mem_of_getElem? hsd), hLs, matok_cut hM _ _, by rw [hel]; omega, by rw [hol]; omega, by show Ls.length ≤ 3; omega⟩ rfl (by show ((M.take L.toNat).length : Int) = L; rw [hel]; omega) (by show ((M.drop L.toNat).take _).length = (M.take L.toNat).length; rw [hel, hol]) (by show (Ls.length : Int) = m; omega)

/-! ### _law_row, _law_rows -/
def sp_L_row (K : PySem.W.Frag) : Sp := fun vs H Q _ => ∃ (v v2 : V) (nd : NetD) (rows : List RowD) (l w : Nat), vs = [v, v2, .int (l : Nat)] ∧ RNet K H v nd ∧ NetOk nd w ∧ RSeq true K (RRow K) H v2 rows ∧ (∀ r ∈ rows, RowOk nd w r) ∧ rows.length ≤ 1000 ∧ l < nd.emb.length ∧
  ∀ v' H', Same H H' → RRow K H' v' (rowD nd rows l) → Q v' H'
theorem lstep_len (p : Int) (asked x : List Int) (o : PairD) : (lstep p asked x o).length = x.length := by
  unfold lstep
  rw [List.length_map, List.length_range]
theorem lfold_len {p : Int} {asked : List Int} : ∀ {prs : List PairD} {x : List Int}, (prs.foldl (lstep p asked) x).length = x.length
  | [], x => rfl
  | o :: r, x => by
    show (r.foldl (lstep p asked) (lstep p asked x o)).length = x.length
    rw [lfold_len, lstep_len]
theorem ok_L_row (T : Txt K mg) : FnOk P w K mg base CX0 3 T.a_L_row T.d_L_row ["_law_net_here", "_law_rows", "_law_letter"] (sp_L_row K) := by
  refine T.F_L_row.ok sc_L_row (fun vs H Q E h => ?_) (fun cdv A outer s H vs Q E hr h => ?_)
  · obtain ⟨_, _, _, _, _, _, rfl, _⟩ := h
    rfl
  · obtain ⟨v, v2, nd, rows, l, wd, rfl, hN, ok, ⟨ar, rvs, rfl, hR, hRl, hRr⟩, hro, hrz, hl, k⟩ := h
    have hp0 : 0 < nd.p := by have := ok.p2; omega
    have w4 := ok.w4
    have p97 := ok.p97
    obtain ⟨an, v1, v2, v3, v4, rfl, hN1, hE, ⟨ash, rfl, hSh⟩, hLay, hOut⟩ := hN
    obtain ⟨ae, evs, rfl, hE1, hEl, hEr⟩ := hE
    obtain ⟨al, lvs, rfl, hL1, hLl, hLr⟩ := hLay
    obtain ⟨ao, ovs, rfl, hO1, hOl, hOr⟩ := hOut
    refine ⟨_, (pss_cons (ps_set (i := 3) sc_L_row.nd rfl (Or.inr rfl) (pe_ix (k_ix (K := K) rfl) (pv 0) pe_int (fun _ _ => rfl)))
      (pss_cons (ps_set (i := 4) sc_L_row.nd rfl (Or.inr rfl) (pe_lc (own := [("_law_k", 14)]) (g := gName 14) (tt := tYes) rfl sc_L_row.nd (pi_range1 rfl T.z_range (pa_cons (pe_callB (k_lenS (K := K) rfl) (by rfl) T.z_len (by decide +kernel) (pa_cons (pe_ix (k_ix (K := K) rfl) (pv 0) pe_int (fun _ _ => rfl)) pa_nil)) pa_nil)) (blkOk_by (own := [("_law_k", 14)]) (by kernel_rfl)) (fun _ _ _ _ _ => (pg_name (i := 14) sc_L_row.nd rfl (by first | exact Or.inl rfl | exact Or.inr rfl))) (fun _ _ _ _ _ => pts_nil) (fun _ _ _ _ _ => (pe_op op_mod (pe_callTy cr_int1 (by rfl) T.z_int (by decide +kernel) (pa_cons (pe_op (k_addG (K := K) rfl) (pe_ix (k_ix (K := K) rfl) (pe_ix (k_ix (K := K) rfl) (pe_ix (k_ix (K := K) rfl) (pv 0) pe_int (fun _ _ => rfl)) (pv 2) (fun _ _ => rfl)) (pv 14) (fun _ _ => rfl)) (pe_op op_mul (pe_callB (k_lenS (K := K) rfl) (by rfl) T.z_len (by decide +kernel) (pa_cons (pv 1) pa_nil)) (pe_ix (k_ix (K := K) rfl) (pe_ix (k_ix (K := K) rfl) (pv 0) pe_int (fun _ _ => rfl)) (pv 14) (fun _ _ => rfl)))) pa_nil)) (pv 3)))))
      (pss_cons (ps_set (i := 5) sc_L_row.nd rfl (Or.inl rfl) (pe_lst pa_nil))
      (pss_cons (ps_for PassesOwn.never rfl (pi_range1 rfl T.z_range (pa_cons (pe_callB (k_lenS (K := K) rfl) (by rfl) T.z_len (by decide +kernel) (pa_cons (pe_ix (k_ix (K := K) rfl) (pv 0) pe_int (fun _ _ => rfl)) pa_nil)) pa_nil)) (pg_name (i := 6) sc_L_row.nd rfl (Or.inr rfl))
      (pss_cons (ps_set (i := 7) sc_L_row.nd rfl (Or.inl rfl) (pe_ix (k_ix (K := K) rfl) (pe_ix (k_ix (K := K) rfl) (pv 0) pe_int (fun _ _ => rfl)) (pv 6) (fun _ _ => rfl)))
      (pss_cons (ps_set (i := 8) sc_L_row.nd rfl (Or.inl rfl) (pe_call (ok_L_times T) (hr.mono (by decide)) (by rfl) T.g_L_times T.F_L_times.kp T.b_L_times .nil pass0 (pa_cons (pe_ix (k_ix (K := K) rfl) (pv 7) pe_int (fun _ _ => rfl)) (pa_cons (pv 4) (pa_cons (pv 3) pa_nil)))))
      (pss_cons (ps_set (i := 9) sc_L_row.nd rfl (Or.inl rfl) (pe_tup (pa_cons (pe_callTy (k_tupS (K := K) rfl) (by rfl) T.z_tuple (by decide +kernel) (pa_cons (pe_call (ok_L_times T) (hr.mono (by decide)) (by rfl) T.g_L_times T.F_L_times.kp T.b_L_times .nil pass0 (pa_cons (pe_ix (k_ix (K := K) rfl) (pv 7) pe_int (fun _ _ => rfl)) (pa_cons (pv 4) (pa_cons (pv 3) pa_nil)))) pa_nil)) (pa_cons (pe_callTy (k_tupS (K := K) rfl) (by rfl) T.z_tuple (by decide +kernel) (pa_cons (pe_call (ok_L_times T) (hr.mono (by decide)) (by rfl) T.g_L_times T.F_L_times.kp T.b_L_times .nil pass0 (pa_cons (pe_ix (k_ix (K := K) rfl) (pv 7) pe_int (fun _ _ => rfl)) (pa_cons (pv 4) (pa_cons (pv 3) pa_nil)))) pa_nil)) pa_nil))))
      (pss_cons (ps_for PassesOwn.never rfl (k_seqS (K := K) rfl (pe_op (k_addG (K := K) rfl) (pe_lc (own := [("_law_row_here", 16)]) (g := gName 16) (tt := tYes) rfl sc_L_row.nd (k_seqS (K := K) rfl (pv 1)) (blkOk_by (own := [("_law_row_here", 16)]) (by kernel_rfl)) (fun _ _ _ _ _ => (pg_name (i := 16) sc_L_row.nd rfl (by first | exact Or.inl rfl | exact Or.inr rfl))) (fun _ _ _ _ _ => pts_nil) (fun _ _ _ _ _ => (pe_ix (k_ix (K := K) rfl) (pe_ix (k_ix (K := K) rfl) (pv 16) pe_int (fun _ _ => rfl)) (pv 6) (fun _ _ => rfl)))) (pe_lst (pa_cons (pv 9) pa_nil)))) (pg_name (i := 10) sc_L_row.nd rfl (Or.inr rfl))
      (pss_cons (ps_set (i := 11) sc_L_row.nd rfl (Or.inr rfl) (pe_call (ok_L_dot T) (hr.mono (by decide)) (by rfl) T.g_L_dot T.F_L_dot.kp T.b_L_dot .nil pass0 (pa_cons (pv 8) (pa_cons (pe_ix (k_ix (K := K) rfl) (pv 10) pe_int (fun _ _ => rfl)) (pa_cons (pv 3) pa_nil)))))
      (pss_one (ps_set (i := 4) sc_L_row.nd rfl (Or.inr rfl) (pe_lc (own := [("_law_k", 14)]) (g := gName 14) (tt := tYes) rfl sc_L_row.nd (pi_range1 rfl T.z_range (pa_cons (pe_callB (k_lenS (K := K) rfl) (by rfl) T.z_len (by decide +kernel) (pa_cons (pv 4) pa_nil)) pa_nil)) (blkOk_by (own := [("_law_k", 14)]) (by kernel_rfl)) (fun _ _ _ _ _ => (pg_name (i := 14) sc_L_row.nd rfl (by first | exact Or.inl rfl | exact Or.inr rfl))) (fun _ _ _ _ _ => pts_nil) (fun _ _ _ _ _ => (pe_op op_mod (pe_callTy cr_int1 (by rfl) T.z_int (by decide +kernel) (pa_cons (pe_op (k_addG (K := K) rfl) (pe_ix (k_ix (K := K) rfl) (pv 4) (pv 14) (fun _ _ => rfl)) (pe_op op_mul (pv 11) (pe_ix (k_ix (K := K) rfl) (pe_ix (k_ix (K := K) rfl) (pv 10) pe_int (fun _ _ => rfl)) (pv 14) (fun _ _ => rfl)))) pa_nil)) (pv 3))))))))
      (pss_cons (ps_setLc (i := 12) (own := [("_law_one", 15)]) (g := gName 15) (tt := tYes) rfl sc_L_row.nd rfl rfl (sw_true rfl rfl rfl (by decide +kernel)) (k_seqS (K := K) rfl (pe_call (ok_L_times T) (hr.mono (by decide)) (by rfl) T.g_L_times T.F_L_times.kp T.b_L_times .nil pass0 (pa_cons (pe_ix (k_ix (K := K) rfl) (pv 7) pe_int (fun _ _ => rfl)) (pa_cons (pv 4) (pa_cons (pv 3) pa_nil))))) (blkOk_by (own := [("_law_one", 15)]) (by kernel_rfl)) (fun _ _ _ _ _ => (pg_name (i := 15) sc_L_row.nd rfl (by first | exact Or.inl rfl | exact Or.inr rfl))) (fun _ _ _ _ _ => pts_nil) (fun _ _ _ _ _ => (pe_op op_mul (pv 15) (pv 15))))
      (pss_cons (ps_set (i := 13) sc_L_row.nd rfl (Or.inr rfl) (pe_call (ok_L_times T) (hr.mono (by decide)) (by rfl) T.g_L_times T.F_L_times.kp T.b_L_times .nil pass0 (pa_cons (pe_ix (k_ix (K := K) rfl) (pv 7) pe_int (fun _ _ => rfl)) (pa_cons (pv 12) (pa_cons (pv 3) pa_nil)))))
      (pss_cons (ps_set (i := 4) sc_L_row.nd rfl (Or.inr rfl) (pe_lc (own := [("_law_k", 14)]) (g := gName 14) (tt := tYes) rfl sc_L_row.nd (pi_range1 rfl T.z_range (pa_cons (pe_callB (k_lenS (K := K) rfl) (by rfl) T.z_len (by decide +kernel) (pa_cons (pv 4) pa_nil)) pa_nil)) (blkOk_by (own := [("_law_k", 14)]) (by kernel_rfl)) (fun _ _ _ _ _ => (pg_name (i := 14) sc_L_row.nd rfl (by first | exact Or.inl rfl | exact Or.inr rfl))) (fun _ _ _ _ _ => pts_nil) (fun _ _ _ _ _ => (pe_op op_mod (pe_callTy cr_int1 (by rfl) T.z_int (by decide +kernel) (pa_cons (pe_op (k_addG (K := K) rfl) (pe_ix (k_ix (K := K) rfl) (pv 4) (pv 14) (fun _ _ => rfl)) (pe_ix (k_ix (K := K) rfl) (pv 13) (pv 14) (fun _ _ => rfl))) pa_nil)) (pv 3)))))
      (pss_one (ps_expr (k_bm (K := K) rfl PySem.F.plainAttrs_list PySem.F.slot_list_append PySem.F.type_list_append mt_append (pv 5) (pa_cons (pv 9) pa_nil))))))))))))
      (pss_one (ps_ret (pe_tup (pa_cons (pe_callTy (k_tupS (K := K) rfl) (by rfl) T.z_tuple (by decide +kernel) (pa_cons (pv 5) pa_nil)) (pa_cons (pe_callTy (k_tupS (K := K) rfl) (by rfl) T.z_tuple (by decide +kernel) (pa_cons (pe_lc (own := [("_law_one", 15)]) (g := gName 15) (tt := tYes) rfl sc_L_row.nd (k_seqS (K := K) rfl (pe_ix (k_ix (K := K) rfl) (pv 0) pe_int (fun _ _ => rfl))) (blkOk_by (own := [("_law_one", 15)]) (by kernel_rfl)) (fun _ _ _ _ _ => (pg_name (i := 15) sc_L_row.nd rfl (by first | exact Or.inl rfl | exact Or.inr rfl))) (fun _ _ _ _ _ => pts_nil) (fun _ _ _ _ _ => (pe_op (k_addG (K := K) rfl) (pe_call (ok_L_dot T) (hr.mono (by decide)) (by rfl) T.g_L_dot T.F_L_dot.kp T.b_L_dot .nil pass0 (pa_cons (pv 15) (pa_cons (pv 4) (pa_cons (pv 3) pa_nil)))) pe_int))) pa_nil)) pa_nil))))))))), ?_⟩
    refine go_start (σ' := [some (.ref an), some (.ref ar), some (.int (l : Nat)), none, none, none, none, none, none, none, none, none, none, none, none, none, none]) rfl ?_
    try dsimp only [cxOf, Cx.nox, Cx.wish]
    have hel : nd.emb[l]? = some (nd.emb.getD l []) := by
      rw [List.getD_eq_getElem?_getD, List.getElem?_eq_getElem hl]
      rfl
    obtain ⟨ye, hye, ⟨aye, rfl, hye2⟩⟩ := RSeq.get hEl hEr hel
    have hew : (nd.emb.getD l []).length = wd := (ok.emb _ (List.mem_of_getElem? hel)).1
    have hsl := ok.sh.1
    have hx0 := startX_ok ok (rows := rows) hl
    have hxs : startX nd rows l = vplus nd.p (nd.emb.getD l []) (nd.sh.map fun n => (rows.length : Int) * n) := rfl
    walk_at "go"
    refine w_ix hN1 (atI_nat (j := 0) rfl) ?_
    walk_at "go"
    refine w_ix hN1 (atI_nat (j := 2) rfl) ?_
    walk_at "go"
    refine c_intsR (by omega) (by omega) (startX nd rows l) (by rw [hx0.1, hsl]; omega) (fun _ => rfl) (fun i H1 N hi sm hN2 => ?_) (fun ax0 H1 hax0 s1 e1 => ?_)
    · walk_at "go"
      refine w_ix (sm.sq hN1) (atI_nat (j := 1) rfl) ?_
      walk_at "go"
      refine w_ix (sm.sq hE1) (atI_nat hye) ?_
      walk_at "go"
      refine w_ix (sm.sq hN1) (atI_nat (j := 2) rfl) ?_
      walk_at "go"
      have en : nth (startX nd rows l) ((i : Nat) : Int) = (nth (nd.emb.getD l []) (i : Nat) + (rows.length : Int) * nth nd.sh (i : Nat)) % nd.p := by
        rw [hxs]
        unfold vplus
        rw [nth_zip (by omega) (by rw [List.length_map]; omega), nth_map (by omega)]
      rw [hRl, ← en]
      exact hN2 _ (Same.refl _)
    walk_at "go"
    refine ⟨Nat.zero_le _, fun D hD => ?_⟩
    have n1 : ax0 ≠ D := ne_of_none e1 hD
    have e1' : (upd H1 D (.lst [])) ax0 = some (.lst ((startX nd rows l).map V.int)) := (upd_ne n1).trans e1
    have s1' : Same H (upd H1 D (.lst [])) := s1.trans (Same.new hD)
    walk_at "go"
    refine w_ix (s1'.sq hN1) (atI_nat (j := 3) rfl) ?_
    walk_at "go"
    refine l_range (fun i σ H' => ∃ (ax : Addr) (y6 y7 y8 y9 y10 y11 y12 y13 : Option V), σ = [some (.ref an), some (.ref ar), some (.int (l : Nat)), some (.int nd.p), some (.ref ax), some (.ref D), y6, y7, y8, y9, y10, y11, y12, y13, none, none, none] ∧ ax ≠ D ∧
        H' ax = some (.lst ((rowSt nd rows (startX nd rows l) i).2.map V.int)) ∧ Filled (RPr K) H1 H' D (rowSt nd rows (startX nd rows l) i).1)
      (by have := ok.l3; omega) (by have := ok.l3; omega) ⟨ax0, none, none, none, none, none, none, none, none, rfl, n1, e1', Filled.nil hD⟩ ?_ ?_
    · rintro i σ H' hi ⟨ax, y6, y7, y8, y9, y10, y11, y12, y13, rfl, nax, hxv, f⟩
      have hi' : i < nd.lay.length := by omega
      have hL : nd.lay[i]? = some (nd.lay.getD i []) := by
        rw [List.getD_eq_getElem?_getD, List.getElem?_eq_getElem hi']
        rfl
      generalize eL : nd.lay.getD i [] = L at hL
      obtain ⟨hL5, hLm⟩ := ok.lay L (List.mem_of_getElem? hL)
      obtain ⟨st1, st2, st3, st4⟩ := rowSt_ok ok hro hx0 i (by omega)
      generalize ex : (rowSt nd rows (startX nd rows l) i).2 = x at hxv st3 st4
      have s3 := s1.trans f.same
      obtain ⟨yl, hyl, hy5⟩ := RSeq.get hLl hLr hL
      have hy5 := RSeq.mono RMat.mono _ _ _ _ s3 hy5
      rw [five_of hL5] at hy5
      obtain ⟨a5, q0, q1, q2, q3, q4, rfl, h5, m0, m1, m2, m3, m4⟩ := RSeq.five hy5
      have hM : ∀ j : Nat, j < 5 → (mt L j).length = wd ∧ MatOk nd.p wd (mt L j) := fun j hj => (mt_ok ⟨hL5, hLm⟩ hj).2
      have hx3 : RVecX K H' (.ref ax) x := ⟨true, ax, rfl, Sq.lst hxv⟩
      walk_at "go"
      refine w_ix (s3.sq hN1) (atI_nat (j := 3) rfl) ?_
      walk_at "go"
      refine w_ix (s3.sq hL1) (atI_nat hyl) ?_
      walk_at "go"
      refine w_ix h5 (atI_nat (j := 0) rfl) ?_
      walk_at "go"
      refine ⟨_, _, _, x, _, rfl, m0, hx3, mat_bd p97 (hM 0 (by omega)).2 st3, by rw [(hM 0 (by omega)).1]; omega, by omega, hp0, fun Dq H4 hDq s4 eq4 => ?_⟩
      walk_at "go"
      -- pair
      refine w_ix (s4.sq h5) (atI_nat (j := 1) rfl) ?_
      walk_at "go"
      refine ⟨_, _, _, x, _, rfl, RMat.mono _ _ _ _ s4 m1, RVecX.mono _ _ _ _ s4 hx3, mat_bd p97 (hM 1 (by omega)).2 st3, by rw [(hM 1 (by omega)).1]; omega, by omega, hp0, fun Dk H5 hDk s5 ek => ?_⟩
      walk_at "go"
      refine w_tupL (Sq.lst ek) fun tk htk => ?_
      have s6 := Same.new (o := .tup ((vtimes nd.p (mt L 1) x).map V.int)) htk
      have rk : RVec false K (upd H5 tk (.tup ((vtimes nd.p (mt L 1) x).map V.int))) (.ref tk) (vtimes nd.p (mt L 1) x) := ⟨tk, rfl, Sq.tup upd_same⟩
      have s46 := (s4.trans s5).trans s6
      generalize upd H5 tk (.tup ((vtimes nd.p (mt L 1) x).map V.int)) = H6 at s6 rk s46 ⊢
      walk_at "go"
      refine w_ix (s46.sq h5) (atI_nat (j := 2) rfl) ?_
      walk_at "go"
      refine ⟨_, _, _, x, _, rfl, RMat.mono _ _ _ _ s46 m2, RVecX.mono _ _ _ _ s46 hx3, mat_bd p97 (hM 2 (by omega)).2 st3, by rw [(hM 2 (by omega)).1]; omega, by omega, hp0, fun Dv H7 hDv s7 ev => ?_⟩
      walk_at "go"
      refine w_tupL (Sq.lst ev) fun tv htv => ?_
      have s8 := Same.new (o := .tup ((vtimes nd.p (mt L 2) x).map V.int)) htv
      have rv : RVec false K (upd H7 tv (.tup ((vtimes nd.p (mt L 2) x).map V.int))) (.ref tv) (vtimes nd.p (mt L 2) x) := ⟨tv, rfl, Sq.tup upd_same⟩
      have rk := RVec.mono _ _ _ _ (s7.trans s8) rk
      have s48 := s46.trans (s7.trans s8)
      have eq8 := ((s5.trans s6).trans (s7.trans s8)) _ _ eq4
      generalize upd H7 tv (.tup ((vtimes nd.p (mt L 2) x).map V.int)) = H8 at rv rk s48 eq8 ⊢
      walk_at "go"
      refine ⟨(by show 2 ≤ sizeLine; decide), fun ap hap => ?_⟩
      walk_at "go"
      have s9 : Same H8 (upd H8 ap (.tup [.ref tk, .ref tv])) := Same.new hap
      have hpair : RPr K (upd H8 ap (.tup [.ref tk, .ref tv])) (.ref ap) (pairOf nd.p L x) := ⟨ap, _, _, rfl, Sq.tup upd_same, RVec.mono _ _ _ _ s9 rk, RVec.mono _ _ _ _ s9 rv⟩
      have s49 := s48.trans s9
      have eq9 := s9 _ _ eq8
      generalize upd H8 ap (.tup [.ref tk, .ref tv]) = H9 at s9 hpair s49 eq9 ⊢
      have s09 := s3.trans s49
      -- the pairs looked at
      refine c_rep (R := RPr K) RPr.mono RPr.tup rvs (s09.sq hR) (prsAt rows i) (by unfold prsAt; rw [List.length_map, hRl]) (line_of (by omega)) (fun _ => rfl) (fun j z d H10 N hj hz hd s10 hN2 => ?_) (fun D7 H10 ys hD7 s10 e10 hyl2 hyr2 => ?_)
      · have hrj : rows[j]? = some (rows[j]'(by omega)) := List.getElem?_eq_getElem (by omega)
        generalize rows[j]'(by omega) = r at hrj
        have ed : d = r.1.getD i ([], []) := by
          unfold prsAt at hd
          rw [List.getElem?_map, hrj] at hd
          exact (Option.some.inj hd).symm
        obtain ⟨az, z1, z2, rfl, hz1, ⟨ap1, pvs, rfl, hp1, hpl, hpr⟩, _⟩ := RRow.mono _ _ _ _ (s09.trans s10) (hRr j z r hz hrj)
        have hr1 : r.1[i]? = some (r.1.getD i ([], [])) := by
          rw [List.getD_eq_getElem?_getD, List.getElem?_eq_getElem (by rw [(hro r (List.mem_of_getElem? hrj)).1]; exact hi')]
          rfl
        obtain ⟨yp, hyp, rp⟩ := RSeq.get hpl hpr hr1
        walk_at "go"
        refine w_ix hz1 (atI_nat (j := 0) rfl) ?_
        walk_at "go"
        refine w_ix hp1 (atI_nat hyp) ?_
        exact hN2 _ _ (Same.refl _) (by rw [ed]; exact rp)
      walk_at "go"
      refine ⟨(by show 1 ≤ sizeLine; decide), fun b1 hb1 => ?_⟩
      have s11 := s10.trans (Same.new (o := .lst [.ref ap]) hb1)
      have hlen7 : ys.length = rows.length := by rw [hyl2]; exact List.length_map ..
      refine w_catLL (Same.at (Same.new hb1) e10) upd_same (by rw [sizeLine_eq]; simp only [List.length_cons, List.length_nil]; omega) fun b2 hb2 => ?_
      have s12 := s11.trans (Same.new (o := .lst (ys ++ [.ref ap])) hb2)
      have hprs : RSeq true K (RPr K) (upd (upd H10 b1 (.lst [.ref ap])) b2 (.lst (ys ++ [.ref ap]))) (.ref b2) (prsAt rows i ++ [pairOf nd.p L x]) := by
        refine ⟨b2, _, rfl, Sq.lst upd_same, by rw [List.length_append, List.length_append, hyl2]; rfl, fun j y' d' h1 h2 => ?_⟩
        by_cases hj : j < ys.length
        · rw [List.getElem?_append_left hj] at h1
          rw [List.getElem?_append_left (by omega)] at h2
          exact RPr.mono _ _ _ _ ((Same.new hb1).trans (Same.new hb2)) (hyr2 j y' d' h1 h2)
        · have h3 := (List.getElem?_eq_some_iff.mp h1).1
          rw [List.length_append] at h3
          have ej : j = ys.length := by
            have : j < ys.length + 1 := h3
            omega
          subst ej
          rw [List.getElem?_append_right (Nat.le_refl _), Nat.sub_self] at h1
          rw [hyl2, List.getElem?_append_right (Nat.le_refl _), Nat.sub_self] at h2
          cases h1
          cases h2
          exact RPr.mono _ _ _ _ s12 hpair
      generalize upd (upd H10 b1 (.lst [.ref ap])) b2 (.lst (ys ++ [.ref ap])) = H12 at s12 hprs ⊢
      have hprok := prsAt_ok hro (i := i) hi'
      have hpo := pairOf_ok (x := x) hp0 ⟨hL5, hLm⟩
      have hall : ∀ o ∈ prsAt rows i ++ [pairOf nd.p L x], PairOk nd.p wd o := fun o ho => by
        rcases List.mem_append.mp ho with h | h
        · exact hprok o h
        · rw [List.mem_singleton.mp h]; exact hpo
      have hml := mid_law hp0 ⟨hL5, hLm⟩ hprok ⟨st3, st4⟩
      have hal : (vtimes nd.p (mt L 0) x).length = wd := by rw [vtimes_len]; exact (hM 0 (by omega)).1
      have hab := (vtimes_sml hp0 (mt L 0) x).bd p97
      generalize hask : vtimes nd.p (mt L 0) x = asked at hml hal hab eq9 ⊢
      generalize hpp : prsAt rows i ++ [pairOf nd.p L x] = prs at hprs hall hml ⊢
      have s312 := s49.trans s12
      have s012 := s3.trans s312
      have eq12 := s12 _ _ eq9
      have hx12 := s312 _ _ hxv
      have f12 := f.mono RPr.mono s312
      obtain ⟨ab, bvs, eab, hb1s, hbl, hbr⟩ := hprs
      cases eab
      walk_at "go"
      refine l_seq (b := true) bvs (fun j σ H' => ∃ (ax' : Addr) (y10 y11 : Option V), σ = [some (.ref an), some (.ref ar), some (.int (l : Nat)), some (.int nd.p), some (.ref ax'), some (.ref D), some (.int (i : Nat)), some (.ref a5), some (.ref Dq), some (.ref ap), y10, y11, y12, y13, none, none, none] ∧ ax' ≠ D ∧
          H' ax' = some (.lst (((prs.take j).foldl (lstep nd.p asked) x).map V.int)) ∧ Same H12 H')
        hb1s ⟨ax, _, _, rfl, nax, by rw [List.take_zero]; exact hx12, Same.refl _⟩ (fun j σ H' _ ⟨_, _, _, _, _, _, sm⟩ => sm.sq hb1s) ?_ ?_
      · rintro j y σ H' hj hyj ⟨ax', y10, y11, rfl, nax', hxj, sm⟩
        have hoj : prs[j]? = some (prs[j]'(by omega)) := List.getElem?_eq_getElem (by omega)
        generalize prs[j]'(by omega) = o at hoj
        obtain ⟨ho1, ho2⟩ := hall o (List.mem_of_getElem? hoj)
        obtain ⟨ay, k1, k2, rfl, hay, ⟨ak1, rfl, hk1⟩, ⟨ak2, rfl, hk2⟩⟩ := RPr.mono _ _ _ _ sm (hbr j y o hyj hoj)
        generalize hcur : (prs.take j).foldl (lstep nd.p asked) x = cur at hxj
        have hcl : cur.length = wd := by rw [← hcur, lfold_len, st3]
        walk_at "go"
        refine w_ix hay (atI_nat (j := 0) rfl) ?_
        walk_at "go"
        refine ⟨_, _, asked, o.1, _, rfl, ⟨true, Dq, rfl, Sq.lst (sm _ _ eq12)⟩, ⟨false, ak1, rfl, hk1⟩, by rw [hal, ho1.1], by omega, hab, hp0, ?_⟩
        have hn0 : 0 ≤ dot asked o.1 % nd.p := Int.emod_nonneg _ (by omega)
        have hn1 : dot asked o.1 % nd.p < nd.p := Int.emod_lt_of_pos _ hp0
        have hld : ldot nd.p asked o.1 = dot asked o.1 % nd.p := ldot_eq (by rw [hal, ho1.1])
        rw [← hld] at hn0 hn1 ⊢
        generalize hnr : ldot nd.p asked o.1 = near at hn0 hn1 ⊢
        walk_at "go"
        refine c_intsR (by omega) (by omega) (lstep nd.p asked cur o) (by rw [lstep_len]; omega) (fun _ => rfl) (fun i2 H13 N hi2 s13 hN2 => ?_) (fun ax2 H13 hax2 s13 e13 => ?_)
        · have ho2l := ho2.1
          walk_at "go"
          refine w_ix (s13.sq hay) (atI_nat (j := 1) rfl) ?_
          walk_at "go"
          have en : nth (lstep nd.p asked cur o) ((i2 : Nat) : Int) = (nth cur (i2 : Nat) + near * nth o.2 (i2 : Nat)) % nd.p := by
            unfold lstep
            rw [nth_range (by omega), hnr]
          rw [← en]
          exact hN2 _ (Same.refl _)
        walk_at "go"
        obtain ⟨fys, fe, _, _⟩ := (f12.mono RPr.mono sm).at_
        refine ⟨ax2, _, _, rfl, (ne_of_none fe hax2).symm, ?_, sm.trans s13⟩
        rw [List.take_add_one, hoj]
        show H13 ax2 = some (HO.lst (((prs.take j ++ [o]).foldl (lstep nd.p asked) x).map V.int))
        rw [List.foldl_append, hcur]
        exact e13
      · rintro σ H13 ⟨ax', y10, y11, rfl, nax', hxj, s13⟩
        rw [hbl, List.take_length, hml] at hxj
        have hmidl := midOf_len (x := x) hp0 ⟨hL5, hLm⟩ hprok st3
        generalize hmd : midOf nd.p L (prsAt rows i) x = mid at hxj hmidl
        have s313 := s312.trans s13
        have hx13 : RVecX K H13 (.ref ax') mid := ⟨true, ax', rfl, Sq.lst hxj⟩
        walk_at "go"
        refine w_ix (s313.sq h5) (atI_nat (j := 3) rfl) ?_
        walk_at "go"
        refine ⟨_, _, _, mid, _, rfl, RMat.mono _ _ _ _ s313 m3, hx13, mat_bd p97 (hM 3 (by omega)).2 hmidl, by rw [(hM 3 (by omega)).1]; omega, by omega, hp0, fun Df H14 hDf s14 e14 => ?_⟩
        have hfl : (vtimes nd.p (mt L 3) mid).length = wd := by rw [vtimes_len]; exact (hM 3 (by omega)).1
        have hsq : sqOf nd.p L mid = (vtimes nd.p (mt L 3) mid).map fun a => a * a := rfl
        have hfb := (vtimes_sml (p := nd.p) hp0 (mt L 3) mid).bd p97
        generalize hfv : vtimes nd.p (mt L 3) mid = fv at hfl hsq hfb e14
        walk_at "go"
        refine c_ints (fv.map V.int) (Sq.lst e14) (sqOf nd.p L mid) (by rw [hsq, List.length_map, List.length_map]) (line_of (by rw [List.length_map]; omega)) (fun _ => rfl) (fun j z H15 N hj hz s15 hN2 => ?_) (fun Ds H15 hDs s15 e15 => ?_)
        · obtain ⟨rfl, hj1⟩ := vec_at hz
          have hb := hfb _ (nth_mem (i := ((j : Nat) : Int)) (by omega) (by omega))
          walk_at "go"
          have en : nth (sqOf nd.p L mid) ((j : Nat) : Int) = nth fv (j : Nat) * nth fv (j : Nat) := by
            rw [hsq]
            exact nth_map (f := fun a => a * a) hj1
          rw [← en]
          exact hN2 _ (Same.refl _)
        have hsl2 : (sqOf nd.p L mid).length = wd := by rw [hsq, List.length_map]; exact hfl
        have s1315 := s14.trans s15
        have s315 := s313.trans s1315
        walk_at "go"
        refine w_ix (s315.sq h5) (atI_nat (j := 4) rfl) ?_
        walk_at "go"
        refine ⟨_, _, _, sqOf nd.p L mid, _, rfl, RMat.mono _ _ _ _ s315 m4, ⟨true, Ds, rfl, Sq.lst e15⟩, mat_bd p97 (hM 4 (by omega)).2 hsl2, by rw [(hM 4 (by omega)).1]; omega, by omega, hp0, fun Dm H16 hDm s16 e16 => ?_⟩
        have hnx : nextOf nd.p L (prsAt rows i) x = vplus nd.p mid (vtimes nd.p (mt L 4) (sqOf nd.p L mid)) := by
          unfold nextOf
          rw [hmd]
        have hmol : (vtimes nd.p (mt L 4) (sqOf nd.p L mid)).length = wd := by rw [vtimes_len]; exact (hM 4 (by omega)).1
        generalize hmo : vtimes nd.p (mt L 4) (sqOf nd.p L mid) = more at hnx hmol e16
        have s1316 := s1315.trans s16
        have hxj16 := s1316 _ _ hxj
        walk_at "go"
        refine c_intsR (by omega) (by omega) (nextOf nd.p L (prsAt rows i) x) (by rw [hnx, vplus_len (by omega)]; omega) (fun _ => rfl) (fun i2 H17 N hi2 s17 hN2 => ?_) (fun ax2 H17 hax2 s17 e17 => ?_)
        · walk_at "go"
          have en : nth (nextOf nd.p L (prsAt rows i) x) ((i2 : Nat) : Int) = (nth mid (i2 : Nat) + nth more (i2 : Nat)) % nd.p := by
            rw [hnx]
            unfold vplus
            rw [nth_zip (by omega) (by omega)]
          rw [← en]
          exact hN2 _ (Same.refl _)
        have s1217 := (s13.trans s1316).trans s17
        have f17 := f12.mono RPr.mono s1217
        have f16 := f12.mono RPr.mono (s13.trans s1316)
        obtain ⟨fys, fe, _, _⟩ := f16.at_
        have nax2 : ax2 ≠ D := (ne_of_none fe hax2).symm
        obtain ⟨fys2, fe2, _, _⟩ := f17.at_
        obtain ⟨ys', e', hl', fp⟩ := f17.push (RPr.tup _ _ _ _ (NTup.lst fe2) (RPr.mono _ _ _ _ (s12.trans s1217) hpair))
        walk_at "go"
        refine w_append e' (line_of (by rw [hl', st1]; have := ok.l3; omega)) ?_
        walk_at "go"
        have h1 : (rowSt nd rows (startX nd rows l) (i + 1)).2 = nextOf nd.p L (prsAt rows i) x := by
          show nextOf nd.p (nd.lay.getD i []) (prsAt rows i) (rowSt nd rows (startX nd rows l) i).2 = _
          rw [eL, ex]
        have h2 : (rowSt nd rows (startX nd rows l) (i + 1)).1 = (rowSt nd rows (startX nd rows l) i).1 ++ [pairOf nd.p L x] := by
          show (rowSt nd rows (startX nd rows l) i).1 ++ [pairOf nd.p (nd.lay.getD i []) (rowSt nd rows (startX nd rows l) i).2] = _
          rw [eL, ex]
        refine ⟨ax2, _, _, _, _, _, _, _, _, rfl, nax2, ?_, ?_⟩
        · rw [h1, upd_ne nax2]
          exact e17
        · rw [h2]
          exact fp
    · rintro σ H' ⟨ax, y6, y7, y8, y9, y10, y11, y12, y13, rfl, nax, hxv, f⟩
      rw [show ((lvs.length : Nat) : Int).toNat = nd.lay.length by omega] at hxv f
      obtain ⟨st1, st2, st3, st4⟩ := rowSt_ok ok hro hx0 nd.lay.length (Nat.le_refl _)
      have s3 := s1.trans f.same
      obtain ⟨a4, ys4, e4', hS4, hl4, hr4⟩ := f.seq RPr.mono (K := K)
      cases e4'
      have e3 : (lastSt nd rows l).2 = (rowSt nd rows (startX nd rows l) nd.lay.length).2 := rfl
      rw [← e3] at hxv st3
      walk_at "go"
      refine w_tupL hS4 fun t1 ht1 => ?_
      have s4 : Same H' (upd H' t1 (.tup ys4)) := Same.new ht1
      have r1 : RSeq false K (RPr K) (upd H' t1 (.tup ys4)) (.ref t1) (rowSt nd rows (startX nd rows l) nd.lay.length).1 := ⟨t1, ys4, rfl, Sq.tup upd_same, hl4, fun i y d h1 h2 => RPr.mono _ _ _ _ s4 (hr4 i y d h1 h2)⟩
      generalize upd H' t1 (.tup ys4) = H4 at s4 r1 ⊢
      have s04 := s3.trans s4
      have hx4 := s4 _ _ hxv
      walk_at "go"
      refine w_ix (s04.sq hN1) (atI_nat (j := 4) rfl) ?_
      walk_at "go"
      refine c_ints ovs (s04.sq hO1) (rowD nd rows l).2 (by show (nd.out.map _).length = _; rw [List.length_map, hOl]) (line_of (by have := ok.o12; omega)) (fun _ => rfl) (fun j y H5 N hj hy s5 hN2 => ?_) (fun D5 H5 hD5 s5 e5 => ?_)
      · have hd : nd.out[j]? = some (nd.out[j]'(by omega)) := List.getElem?_eq_getElem (by omega)
        have ho := ok.out _ (List.mem_of_getElem? hd)
        walk_at "go"
        refine ⟨_, _, _, (lastSt nd rows l).2, _, rfl, ⟨false, RVec.mono _ _ _ _ (s04.trans s5) (hOr j y _ hy hd)⟩, ⟨true, ax, rfl, Sq.lst (s5 _ _ hx4)⟩, by rw [ho.1, st3], by rw [ho.1]; omega, ho.2.bd ok.p97, hp0, ?_⟩
        walk_at "go"
        have en : nth (rowD nd rows l).2 ((j : Nat) : Int) = dot (nd.out[j]'(by omega)) (lastSt nd rows l).2 % nd.p + 1 := (nth_mapG (f := fun v => 1 + dot v (lastSt nd rows l).2 % nd.p) hd).trans (Int.add_comm ..)
        rw [← en]
        exact hN2 _ (Same.refl _)
      walk_at "go"
      refine w_tupL (Sq.lst e5) fun t2 ht2 => ?_
      walk_at "go"
      have s6 := Same.new (o := .tup ((rowD nd rows l).2.map V.int)) ht2
      refine ⟨(by show 2 ≤ sizeLine; decide), fun t3 ht3 => ?_⟩
      walk_at "go"
      have s7 := Same.new (o := .tup [.ref t1, .ref t2]) ht3
      exact k _ _ ((s04.trans s5).trans (s6.trans s7)) ⟨t3, .ref t1, .ref t2, rfl, Sq.tup upd_same, RSeq.mono RPr.mono _ _ _ _ (s5.trans (s6.trans s7)) r1, ⟨t2, rfl, s7.sq (Sq.tup upd_same)⟩⟩


/-! ### _law_numbers: so many numbers from 0 to 999 -/
def sp_L_numbers (K : PySem.W.Frag) : Sp := fun vs H Q _ => ∃ (c t n : Int), vs = [.int c, .int t, .int n] ∧ 0 ≤ n ∧ n ≤ 1000 ∧
  ∀ (ns : List Int) (p : Addr) (H' : Hp), (ns.length : Int) = n → (∀ x ∈ ns, (0 : Int) ≤ x ∧ x < 1000) → Same H H' → H p = none → H' p = some (.lst (ns.map V.int)) → Q (.ref p) H'
theorem ok_L_numbers (T : Txt K mg) : FnOk P w K mg base CX0 1 T.a_L_numbers T.d_L_numbers ["_law_cell", "_law_at", "_law_many"] (sp_L_numbers K) := by
  refine T.F_L_numbers.ok sc_L_numbers (fun vs H Q E h => ?_) (fun cdv A outer s H vs Q E hr h => ?_)
  · obtain ⟨_, _, _, rfl, _⟩ := h
    rfl
  · obtain ⟨c, t, n, rfl, hn0, hn1, k⟩ := h
    refine ⟨_, (pss_cons (ps_set (i := 3) sc_L_numbers.nd rfl (Or.inl rfl) (pe_cmpR op_ge (pe_callB cr_abs (by rfl) T.z_abs (by decide +kernel) (pa_cons (pe_callTy cr_int1 (by rfl) T.z_int (by decide +kernel) (pa_cons (pv 0) pa_nil)) pa_nil)) (pe_op op_pow pe_int pe_int) (nomark _)))
      (pss_cons (ps_set (i := 4) sc_L_numbers.nd rfl (Or.inl rfl) (pe_op (k_addG (K := K) rfl) (pe_op op_mul pe_int (pe_callB cr_abs (by rfl) T.z_abs (by decide +kernel) (pa_cons (pe_callTy cr_int1 (by rfl) T.z_int (by decide +kernel) (pa_cons (pv 0) pa_nil)) pa_nil))) (pe_callTy cr_int1 (by rfl) T.z_int (by decide +kernel) (pa_cons (pe_cmpR op_lt (pv 0) pe_int (nomark _)) pa_nil))))
      (pss_cons (ps_set (i := 5) sc_L_numbers.nd rfl (Or.inl rfl) (pe_lst pa_nil))
      (pss_cons (ps_for PassesOwn.never rfl (pi_range1 rfl T.z_range (pa_cons (pv 2) pa_nil)) (pg_name (i := 6) sc_L_numbers.nd rfl (Or.inl rfl))
      (pss_one (ps_if (k_tru (K := K) rfl (pv 3) (by intro _; rfl)) (pss_cons (ps_expr (k_bm (K := K) rfl PySem.F.plainAttrs_list PySem.F.slot_list_append PySem.F.type_list_append mt_append (pv 5) (pa_cons (pe_op op_mod (pe_callTy cr_int1 (by rfl) T.z_int (by decide +kernel) (pa_cons (pv 4) pa_nil)) pe_int) pa_nil)))
      (pss_one (ps_set (i := 4) sc_L_numbers.nd rfl (Or.inl rfl) (pe_op op_fdiv (pv 4) pe_int)))) (pss_cons (ps_set (i := 7) sc_L_numbers.nd rfl (Or.inl rfl) (pe_op op_mod (pe_callTy cr_int1 (by rfl) T.z_int (by decide +kernel) (pa_cons (pe_op (k_addG (K := K) rfl) (pe_op (k_addG (K := K) rfl) (pe_op (k_addG (K := K) rfl) (pe_op op_mul (pv 4) pe_int) (pe_op op_mul (pv 1) pe_int)) (pe_op op_mul (pv 6) pe_int)) pe_int) pa_nil)) pe_int))
      (pss_cons (ps_set (i := 7) sc_L_numbers.nd rfl (Or.inl rfl) (pe_op op_mod (pe_callTy cr_int1 (by rfl) T.z_int (by decide +kernel) (pa_cons (pe_op (k_addG (K := K) rfl) (pe_op (k_addG (K := K) rfl) (pe_op op_mul (pv 7) (pv 7)) (pe_op op_mul (pv 6) pe_int)) pe_int) pa_nil)) pe_int))
      (pss_cons (ps_set (i := 7) sc_L_numbers.nd rfl (Or.inl rfl) (pe_op op_mod (pe_callTy cr_int1 (by rfl) T.z_int (by decide +kernel) (pa_cons (pe_op (k_addG (K := K) rfl) (pe_op (k_addG (K := K) rfl) (pe_op op_mul (pv 7) (pv 7)) (pe_op op_mul (pv 1) pe_int)) pe_int) pa_nil)) pe_int))
      (pss_one (ps_expr (k_bm (K := K) rfl PySem.F.plainAttrs_list PySem.F.slot_list_append PySem.F.type_list_append mt_append (pv 5) (pa_cons (pe_op op_mod (pe_callTy cr_int1 (by rfl) T.z_int (by decide +kernel) (pa_cons (pe_op op_fdiv (pv 7) pe_int) pa_nil)) pe_int) pa_nil))))))))))
      (pss_one (ps_ret (pv 5))))))), ?_⟩
    refine go_start (σ' := [some (.int c), some (.int t), some (.int n), none, none, none, none, none]) rfl ?_
    try dsimp only [cxOf, Cx.nox, Cx.wish]
    walk_at "go"
    refine ⟨Nat.zero_le _, fun l hl => ?_⟩
    walk_at "go"
    refine l_range (fun i σ H' => ∃ (g : Bool) (r : Int) (ns : List Int) (y6 y7 : Option V), σ = [some (.int c), some (.int t), some (.int n), some (.bl g), some (.int r), some (.ref l), y6, y7] ∧ ns.length = i ∧ (∀ x ∈ ns, (0 : Int) ≤ x ∧ x < 1000) ∧ Same H H' ∧ H' l = some (.lst (ns.map V.int)))
      (by omega) (by omega) ⟨_, _, [], none, none, rfl, rfl, List.forall_mem_nil _, Same.new hl, upd_same⟩ ?_ ?_
    · rintro i σ H' hi ⟨g, r, ns, y6, y7, rfl, hlen, hb, sm, hL⟩
      have hz : (ns.map V.int).length < sizeLine := by
        rw [List.length_map]
        exact small1000 (by omega)
      walk_at "go"
      refine w_iteB (fun hg => ?_) (fun hg => ?_)
      · walk_at "go"
        refine w_append hL hz ?_
        walk_at "go"
        refine ⟨g, _, ns ++ [_], _, _, rfl, by rw [List.length_append, hlen]; rfl, fun x hx => ?_, Same.mut sm hl, by rw [upd_same, List.map_append]; rfl⟩
        rcases List.mem_append.mp hx with h | h
        · exact hb x h
        · rw [List.mem_singleton.mp h]; omega
      · walk_at "go"
        refine w_append hL hz ?_
        walk_at "go"
        refine ⟨g, _, ns ++ [_], _, _, rfl, by rw [List.length_append, hlen]; rfl, fun x hx => ?_, Same.mut sm hl, by rw [upd_same, List.map_append]; rfl⟩
        rcases List.mem_append.mp hx with h | h
        · exact hb x h
        · rw [List.mem_singleton.mp h]; omega
    · rintro σ H' ⟨g, r, ns, y6, y7, rfl, hlen, hb, sm, hL⟩
      walk_at "go"
      exact k ns l H' (by omega) hb sm hl hL

/-! ### _law_same: True of the same data -/
def sp_L_same (K : PySem.W.Frag) (n : Nat) : Sp := fun vs H Q _ => ∃ x y : V, vs = [x, y] ∧ Sm K H n x y ∧ Q (.bl true) H
theorem same_step (T : Txt K mg) {n k : Nat} (G : FnOk P w K mg base CX0 k T.a_L_same T.d_L_same ["_law_actual", "_law_expected"] (fun vs H Q E => ∃ m, n = m + 1 ∧ sp_L_same K m vs H Q E)) :
    FnOk P w K mg base CX0 (k + 1) T.a_L_same T.d_L_same ["_law_actual", "_law_expected"] (sp_L_same K n) := by
  refine T.F_L_same.ok sc_L_same (fun vs H Q E h => ?_) (fun cdv A outer s H vs Q E hr h => ?_)
  · obtain ⟨_, _, rfl, _⟩ := h
    rfl
  · obtain ⟨x, y, rfl, hS, q⟩ := h
    refine ⟨_, (pss_cons (ps_if (pt_cmpR op_isNN (pv 1) pe_non (nomark _)) (pss_one (ps_ret (pe_cmpR op_isNN (pv 0) pe_non (nomark _)))) pss_nil)
      (pss_cons (ps_if (k_tru (K := K) rfl (pe_callB (k_isi (K := K) rfl) (by rfl) T.z_isinstance (by decide +kernel) (pa_cons (pv 1) (pa_cons (pe_bltn (v := .ty "str") (by rfl) T.z_str (by decide +kernel) rfl) pa_nil))) (by intro _; rfl)) (pss_one (ps_ret (pe_and (pe_callB (k_isi (K := K) rfl) (by rfl) T.z_isinstance (by decide +kernel) (pa_cons (pv 0) (pa_cons (pe_bltn (v := .ty "str") (by rfl) T.z_str (by decide +kernel) rfl) pa_nil))) (pe_one (pe_cmpR (k_eqG (K := K) rfl hr.units) (pv 0) (pv 1) (nomark _)))))) pss_nil)
      (pss_cons (ps_if (k_tru (K := K) rfl (pe_callB (k_isi (K := K) rfl) (by rfl) T.z_isinstance (by decide +kernel) (pa_cons (pv 1) (pa_cons (pe_bltn (v := .ty "bool") (by rfl) T.z_bool (by decide +kernel) rfl) pa_nil))) (by intro _; rfl)) (pss_one (ps_ret (pe_and (pe_callB (k_isi (K := K) rfl) (by rfl) T.z_isinstance (by decide +kernel) (pa_cons (pv 0) (pa_cons (pe_bltn (v := .ty "bool") (by rfl) T.z_bool (by decide +kernel) rfl) pa_nil))) (pe_one (pe_cmpR (k_eqG (K := K) rfl hr.units) (pv 0) (pv 1) (nomark _)))))) pss_nil)
      (pss_cons (ps_if (k_tru (K := K) rfl (pe_callB (k_isi (K := K) rfl) (by rfl) T.z_isinstance (by decide +kernel) (pa_cons (pv 1) (pa_cons (pe_bltn (v := .ty "int") (by rfl) T.z_int (by decide +kernel) rfl) pa_nil))) (by intro _; rfl)) (pss_one (ps_ret (pe_and (pe_callB (k_isi (K := K) rfl) (by rfl) T.z_isinstance (by decide +kernel) (pa_cons (pv 0) (pa_cons (pe_bltn (v := .ty "int") (by rfl) T.z_int (by decide +kernel) rfl) pa_nil))) (pe_and (pe_not (pe_callB (k_isi (K := K) rfl) (by rfl) T.z_isinstance (by decide +kernel) (pa_cons (pv 0) (pa_cons (pe_bltn (v := .ty "bool") (by rfl) T.z_bool (by decide +kernel) rfl) pa_nil)))) (pe_one (pe_cmpR (k_eqG (K := K) rfl hr.units) (pv 0) (pv 1) (nomark _))))))) pss_nil)
      (pss_cons (ps_if (PW.pt (pw_or (pt_not (k_tru (K := K) rfl (pe_callB (k_isi (K := K) rfl) (by rfl) T.z_isinstance (by decide +kernel) (pa_cons (pv 0) (pa_cons (pe_bltn (v := .ty "tuple") (by rfl) T.z_tuple (by decide +kernel) rfl) pa_nil))) (by intro _; rfl))) (pw_or1 (pt_cmpR (k_neG (K := K) rfl hr.units) (pe_callB (k_lenS (K := K) rfl) (by rfl) T.z_len (by decide +kernel) (pa_cons (pv 0) pa_nil)) (pe_callB (k_lenS (K := K) rfl) (by rfl) T.z_len (by decide +kernel) (pa_cons (pv 1) pa_nil)) (nomark _))))) (pss_one (ps_ret pe_bl)) pss_nil)
      (pss_cons (ps_for PassesOwn.never rfl (pi_range1 rfl T.z_range (pa_cons (pe_callB (k_lenS (K := K) rfl) (by rfl) T.z_len (by decide +kernel) (pa_cons (pv 1) pa_nil)) pa_nil)) (pg_name (i := 2) sc_L_same.nd rfl (Or.inl rfl))
      (pss_one (ps_if (pt_not (k_tru (K := K) rfl (pe_call G hr (by rfl) T.g_L_same T.F_L_same.kp T.b_L_same .nil pass0 (pa_cons (pe_ix (k_ix (K := K) rfl) (pv 0) (pv 2) (fun _ _ => rfl)) (pa_cons (pe_ix (k_ix (K := K) rfl) (pv 1) (pv 2) (fun _ _ => rfl)) pa_nil))) (by intro _; rfl))) (pss_one (ps_ret pe_bl)) pss_nil)))
      (pss_one (ps_ret pe_bl)))))))), ?_⟩
    refine go_start (σ' := [some x, some y, none]) rfl ?_
    try dsimp only [cxOf, Cx.nox, Cx.wish]
    have hflat : (x = y ∧ (x = .non ∨ (∃ b, x = .bl b) ∨ (∃ i, x = .int i) ∨ ∃ s, x = .str s)) ∨
        ∃ (m : Nat) (a a' : Addr) (k : Bool) (xs ys : List V), n = m + 1 ∧ x = .ref a ∧ y = .ref a' ∧ SqT K H a xs ∧ Sq k K H a' ys ∧ xs.length = ys.length ∧ ys.length ≤ 100000 ∧ ∀ (i : Nat) x' y', xs[i]? = some x' → ys[i]? = some y' → Sm K H m x' y' := by
      cases n with
      | zero => exact .inl hS
      | succ m =>
        rcases hS with h | ⟨a, a', k, xs, ys, h1, h2, h3, h4, h5, hz, h6⟩
        · exact .inl h
        · exact .inr ⟨m, a, a', k, xs, ys, rfl, h1, h2, h3, h4, h5, hz, h6⟩
    rcases hflat with ⟨rfl, rfl | ⟨b, rfl⟩ | ⟨i, rfl⟩ | ⟨z, rfl⟩⟩ | ⟨m, a, a', kd, xs, ys, rfl, rfl, rfl, hx, hy, hl, hz, hxy⟩
    · walk_at "go"
      exact q
    · walk_at "go"
      refine w_isi (tn := "bool") (b := false) (.base (.bl _)) (by decide +kernel) ?_
      walk_at "go"
      refine w_isi (tn := "bool") (b := true) (.base (.bl _)) (by decide +kernel) ?_
      walk_at "go"
      refine w_isi (tn := "bool") (b := true) (.base (.bl _)) (by decide +kernel) ?_
      walk_at "go"
      refine w_eqS rfl ?_
      rw [decide_eq_true rfl]
      exact q
    · walk_at "go"
      refine w_isi (tn := "int") (b := false) (.base (.int _)) (by decide +kernel) ?_
      walk_at "go"
      refine w_isi (tn := "int") (b := false) (.base (.int _)) (by decide +kernel) ?_
      walk_at "go"
      refine w_isi (tn := "int") (b := true) (.base (.int _)) (by decide +kernel) ?_
      walk_at "go"
      refine w_isi (tn := "int") (b := true) (.base (.int _)) (by decide +kernel) ?_
      walk_at "go"
      refine w_isi (tn := "int") (b := false) (.base (.int _)) (by decide +kernel) ?_
      walk_at "go"
      rw [decide_eq_true rfl]
      exact q
    · walk_at "go"
      refine w_isi (tn := "str") (b := true) (.base (.str _)) (by decide +kernel) ?_
      walk_at "go"
      refine w_isi (tn := "str") (b := true) (.base (.str _)) (by decide +kernel) ?_
      walk_at "go"
      refine w_eqS rfl ?_
      rw [decide_eq_true rfl]
      exact q
    · walk_at "go"
      have isi : ∀ {cn : String} {Q' : VK}, kitB (if kd then "list" else "tuple") cn = some false → Q' (.bl false) H → rIsi K [.ref a', .ty cn] H Q' := fun hk q' => by
        cases kd with
        | true => exact w_isi (tyx_lst hy) hk q'
        | false => exact w_isi (tyx_tup hy) hk q'
      refine isi (by cases kd <;> decide +kernel) ?_
      walk_at "go"
      refine isi (by cases kd <;> decide +kernel) ?_
      walk_at "go"
      refine isi (by cases kd <;> decide +kernel) ?_
      walk_at "go"
      refine w_isi (tn := "tuple") (b := true) (tyx_tup hx) (by decide +kernel) ?_
      walk_at "go"
      have hx' : Sq false K H a xs := hx
      walk_at "go"
      refine w_iteN (fun hc => absurd (show ((xs.length : Nat) : Int) = ys.length by rw [hl]) hc) (fun _ => ?_)
      walk_at "go"
      refine l_range (fun i σ H' => ∃ y2, σ = [some (.ref a), some (.ref a'), y2] ∧ H' = H) (by omega) (by omega) ⟨none, rfl, rfl⟩ ?_ ?_
      · rintro i σ H' hi ⟨y2, rfl, rfl⟩
        have hi2 : i < ys.length := by omega
        have ex : xs[i]? = some (xs[i]'(by omega)) := List.getElem?_eq_getElem (by omega)
        have ey : ys[i]? = some (ys[i]'hi2) := List.getElem?_eq_getElem hi2
        walk_at "go"
        refine w_ix hx' (atI_nat ex) ?_
        walk_at "go"
        refine w_ix hy (atI_nat ey) ?_
        walk_at "go"
        refine ⟨m, rfl, _, _, rfl, hxy i _ _ ex ey, ?_⟩
        walk_at "go"
        exact ⟨_, rfl, rfl⟩
      · rintro σ H' ⟨y2, rfl, rfl⟩
        walk_at "go"
        exact q
/-- of data no deeper than n, at a level of its own -/
theorem ok_L_same_at (T : Txt K mg) : ∀ n : Nat, FnOk P w K mg base CX0 (n + 1) T.a_L_same T.d_L_same ["_law_actual", "_law_expected"] (sp_L_same K n)
  | 0 => same_step T (k := 0) ⟨fun vs H Q E h => by obtain ⟨m, e, _⟩ := h; exact absurd e (by omega), fun A outer s H args us vs Q E hr he hb hv h => by obtain ⟨m, e, _⟩ := h; exact absurd e (by omega)⟩
  | n + 1 => same_step T ((ok_L_same_at T n).imp fun vs H Q E h => by
      obtain ⟨m, e, h⟩ := h
      have e2 : m = n := by omega
      subst e2
      exact h)

/-! ### the same rows; nets told; rows of a part -/
theorem pair_sm {K : PySem.W.Frag} {H : Hp} {n : Nat} {x y : V} {p : PairD} (h1 : p.1.length ≤ 1000) (h2 : p.2.length ≤ 1000) (r1 : RPr K H x p) (r2 : RPr K H y p) : Sm K H (n + 2) x y :=
  RPair.sm (fun _ _ a b => RVec.sm (by omega) a b) (fun _ _ a b => RVec.sm (by omega) a b) r1 r2
theorem row_sm {K : PySem.W.Frag} {H : Hp} {nd : NetD} {w : Nat} (ok : NetOk nd w) {x y : V} {r : RowD} (hr : RowOk nd w r) (r1 : RRow K H x r) (r2 : RRow K H y r) : Sm K H 4 x y := by
  obtain ⟨h1, h2, h3⟩ := hr
  have := ok.l3
  have := ok.o12
  have := ok.w4
  exact RPair.sm (fun _ _ a b => RSeq.sm (by omega) (fun _ _ d hd a b => pair_sm (by have := (h2 d hd).1.1; omega) (by have := (h2 d hd).2.1; omega) a b) a b) (fun _ _ a b => RVec.sm (by omega) a b) r1 r2
theorem rows_sm {K : PySem.W.Frag} {H : Hp} {b : Bool} {nd : NetD} {w : Nat} (ok : NetOk nd w) {x y : V} {rows : List RowD} (hz : rows.length ≤ 1000) (hr : ∀ r ∈ rows, RowOk nd w r) (r1 : RSeq false K (RRow K) H x rows) (r2 : RSeq b K (RRow K) H y rows) : Sm K H 5 x y :=
  RSeq.sm (by omega) (fun _ _ d hd a b => row_sm ok (hr d hd) a b) r1 r2
theorem Sm.up {K : PySem.W.Frag} {H : Hp} : ∀ {n : Nat} {x y : V}, Sm K H n x y → Sm K H (n + 1) x y
  | 0, _, _, h => .inl h
  | n + 1, _, _, h => by
    rcases h with h | ⟨a, a', k, xs, ys, h1, h2, h3, h4, h5, hz, h6⟩
    · exact .inl h
    · exact .inr ⟨a, a', k, xs, ys, h1, h2, h3, h4, h5, hz, fun i x' y' e1 e2 => Sm.up (h6 i x' y' e1 e2)⟩
theorem make_same {H : Hp} {x dx : Addr} {o o' : HO} (hx : H x = none) (hdx : H dx = none) : Same H (hide x (upd (upd H dx o) x o')) := fun b u e => by
  rw [hide_upd, hide_ne (ne_of_none e hx), upd_ne (ne_of_none e hdx)]
  exact e
def RTold (K : PySem.W.Frag) (C : Addr) : Rep NetD := fun H v nd => ∃ q, v = .ref q ∧ IsNet K C H q nd .non
theorem RTold.mono {K : PySem.W.Frag} {C : Addr} : RMono (RTold K C) := fun _ _ _ _ s ⟨q, e, h⟩ => ⟨q, e, h.mono s⟩
theorem RTold.lst {K : PySem.W.Frag} {C : Addr} : RLst (RTold K C) := fun H D v nd ys hD ⟨q, e, dx, v1, v2, v3, v4, h0, h1, h2, h3, h4⟩ => by
  have t := NTup.lst hD
  refine ⟨q, e, dx, v1, v2, v3, v4, ?_, RMat.tup _ _ _ _ t h1, RVec.tup _ _ _ _ t h2, RSeq.tup (RSeq.tup RMat.tup) _ _ _ _ t h3, RMat.tup _ _ _ _ t h4⟩
  rw [hide_ne (fun e => by rw [e, hD] at h0; cases h0)]
  exact h0
theorem RLay.x {K : PySem.W.Frag} {H : Hp} {v : V} {L : List (List Mat)} (h : RSeq false K (RSeq false K (RMat K)) H v L) : RLayX K H v L := by
  obtain ⟨a, vs, e, h1, h2, h3⟩ := h
  refine ⟨false, a, vs, e, h1, h2, fun i y x e1 e2 => ?_⟩
  obtain ⟨a', vs', e', h1', h2', h3'⟩ := h3 i y x e1 e2
  exact ⟨false, a', vs', e', h1', h2', fun i y x e1 e2 => (h3' i y x e1 e2).x⟩
/-- the hand-over of a net's data to Net(..) -/
theorem told_of {K : PySem.W.Frag} {C : Addr} {H1 : Hp} {nd : NetD} {w : Nat} (ok : NetOk nd w) (hpr : nd.p ∈ primes) {v1 v2 v3 v4 : V} {x dx : Addr} (hx : H1 x = none) (hdx : H1 dx = none) {Q : VK} {E : XK}
    (r1 : RMat K H1 v1 nd.emb) (r2 : RVec false K H1 v2 nd.sh) (r3 : RSeq false K (RSeq false K (RMat K)) H1 v3 nd.lay) (r4 : RMat K H1 v4 nd.out) (q : ∀ H', Same H1 H' → IsNet K C H' x nd .non → Q .non H') :
    sp_Net___init__ K C [.ref x, .int nd.p, v1, v2, v3, v4, .non] (upd (upd H1 dx (.own x)) x (.ins C dx [])) Q E := by
  have s := make_same (o := .own x) (o' := .ins C dx []) hx hdx
  have := ok.e12
  have := ok.o12
  have := ok.l3
  refine ⟨x, dx, nd, v1, v2, v3, v4, .non, rfl, upd_same, hpr, RMatX.mono _ _ _ _ s r1.x, RVecX.mono _ _ _ _ s ⟨false, r2⟩, RLayX.mono _ _ _ _ s (RLay.x r3), RMatX.mono _ _ _ _ s r4.x, by omega, by omega, by omega, fun L hL => ?_, fun H' s' r => q H' ((s.trans s').trans (hide_same _ _)) r⟩
  obtain ⟨h5, hm⟩ := ok.lay L hL
  have := ok.w4
  exact ⟨by omega, fun M hM => by rw [(hm M hM).1]; omega⟩
theorem natI_toNat {ms : List Int} (h : ∀ x ∈ ms, (0 : Int) ≤ x) : natI (ms.map Int.toNat) = ms := by
  induction ms with
  | nil => rfl
  | cons a r ih =>
    show ((a.toNat : Nat) : Int) :: natI (r.map Int.toNat) = a :: r
    rw [ih fun x hx => h x (List.mem_cons_of_mem _ hx), Int.toNat_of_nonneg (h a (List.mem_cons_self ..))]
theorem rowsD_pre (nd : NetD) : ∀ (ls : List Nat) (acc : List RowD), (rowsD nd ls acc).take acc.length = acc
  | [], acc => List.take_length ..
  | a :: r, acc => by
    have h := congrArg (List.take acc.length) (rowsD_pre nd r (acc ++ [rowD nd acc a]))
    rw [List.take_take, List.length_append, Nat.min_eq_left (by omega), List.take_left' rfl] at h
    exact h
theorem rowsD_takeG (nd : NetD) : ∀ (ls : List Nat) (n : Nat) (acc : List RowD), rowsD nd (ls.take n) acc = (rowsD nd ls acc).take (acc.length + n)
  | ls, 0, acc => by rw [List.take_zero, Nat.add_zero, rowsD_pre]; rfl
  | [], n + 1, acc => by
    show acc = acc.take (acc.length + (n + 1))
    rw [List.take_of_length_le (by omega)]
  | a :: r, n + 1, acc => by
    show rowsD nd (r.take n) (acc ++ [rowD nd acc a]) = (rowsD nd r (acc ++ [rowD nd acc a])).take (acc.length + (n + 1))
    rw [rowsD_takeG nd r n, List.length_append, List.length_singleton, show acc.length + 1 + n = acc.length + (n + 1) by omega]
theorem rowsD_take (nd : NetD) (ls : List Nat) (n : Nat) : rowsD nd (ls.take n) [] = (rowsD nd ls []).take n := by
  rw [rowsD_takeG nd ls n [], List.length_nil, Nat.zero_add]
theorem lastW_at {rows : List RowD} {n : Nat} {r : RowD} (h : rows[n]? = some r) (hl : rows.length = n + 1) : lastW rows = r.2 := by
  unfold lastW
  rw [List.getLastD_eq_getLast?, List.getLast?_eq_getElem?, hl, Nat.add_sub_cancel, h]
  rfl
theorem lastW_take {nd : NetD} {ls : List Nat} {j : Nat} {r : RowD} (h : (rowsD nd ls [])[j]? = some r) : lastW (rowsD nd (ls.take (j + 1)) []) = r.2 := by
  have hj := (List.getElem?_eq_some_iff.mp h).1
  rw [rowsD_take]
  refine lastW_at (n := j) ?_ (by rw [List.length_take]; omega)
  rw [List.getElem?_take, if_pos (by omega)]
  exact h
theorem natI_take (ls : List Nat) (n : Nat) : (natI (ls.take n)).map V.int = ((natI ls).map V.int).take n := by
  unfold natI
  rw [List.map_take, List.map_take]
theorem rowW_in {nd : NetD} {w : Nat} (ok : NetOk nd w) {rows : List RowD} {l : Nat} : ∀ x ∈ (rowD nd rows l).2, 1 ≤ x ∧ x ≤ nd.p := fun x hx => by
  obtain ⟨v, _, e⟩ := List.mem_map.mp hx
  have := ok.p2
  have h1 : 0 ≤ dot v (lastSt nd rows l).2 % nd.p := Int.emod_nonneg _ (by omega)
  have h2 : dot v (lastSt nd rows l).2 % nd.p < nd.p := Int.emod_lt_of_pos _ (by omega)
  subst e
  omega
theorem rowsW_in {nd : NetD} {w : Nat} (ok : NetOk nd w) : ∀ (ls : List Nat) (acc : List RowD), (∀ r ∈ acc, ∀ x ∈ r.2, 1 ≤ x ∧ x ≤ nd.p) → ∀ r ∈ rowsD nd ls acc, ∀ x ∈ r.2, 1 ≤ x ∧ x ≤ nd.p
  | [], acc, h => h
  | a :: r, acc, h => rowsW_in ok r _ fun x hx => by
    rcases List.mem_append.mp hx with h1 | h1
    · exact h x h1
    · rw [List.mem_singleton.mp h1]; exact rowW_in ok
theorem cutV_ints {ns : List Int} {a b : Int} (h0 : 0 ≤ a) (h : a ≤ b) (hb : b ≤ ns.length) : cutV (ns.map V.int) (some a) (some b) = ((ns.drop a.toNat).take (b.toNat - a.toNat)).map V.int := by
  rw [cutV_int h0 h (by rw [List.length_map]; exact hb), List.map_take, List.map_drop]

/-! ### values told by a whole number or none; raising; nothing let out -/
def RAny (K : PySem.W.Frag) (H : Hp) (v : V) : Option Int → Prop
  | some i => v = .int i
  | none => ∃ tn, TyX K H v (.type tn) ∧ (tn = "bool" ∨ tn = "NoneType" ∨ tn = "str" ∨ tn = "tuple" ∨ tn = "list")
def btw (a b : Int) : Option Int → Bool
  | some i => decide (a ≤ i ∧ i ≤ b)
  | none => false
theorem RAny.btw {K : PySem.W.Frag} {H : Hp} {v : V} {o : Option Int} (h : RAny K H v o) (a b : Int) : (∃ i, v = .int i ∧ btw a b o = decide (a ≤ i ∧ i ≤ b)) ∨ (My.btw a b o = false ∧ ∃ tn, TyX K H v (.type tn) ∧ (tn = "bool" ∨ tn = "NoneType" ∨ tn = "str" ∨ tn = "tuple" ∨ tn = "list")) := by
  cases o with
  | some i => exact .inl ⟨i, h, rfl⟩
  | none => exact .inr ⟨rfl, h⟩
theorem w_raiseV {K : PySem.W.Frag} {C : Addr} {f : Str} {i : Nat} {v : V} {QX : XK} {σ : L2.St} {H : Hp} (o : OexC K C) (n : PySem.W.findIn K (.ref C) f = some none) (h : σ[i]? = some (some v)) (q : RaiseQ QX H C f v) : tMkO C (spErr K f) [] (tCons (tVar i) tNil) σ H QX :=
  w_mkErrV o n h fun d hd => q d _ hd (Same.new hd) upd_same
theorem w_raiseC {K : PySem.W.Frag} {C : Addr} {f : Str} {v : V} {QX : XK} {σ : L2.St} {H : Hp} (o : OexC K C) (n : PySem.W.findIn K (.ref C) f = some none) (q : RaiseQ QX H C f v) : tMkO C (spErr K f) [] (tCons (tC v) tNil) σ H QX :=
  w_mkErr o n ⟨v, rfl, fun d hd => q d _ hd (Same.new hd) upd_same⟩ fun hq z => hq _ _ z
theorem toCX0 {P : Program} {w : World} {K : PySem.W.Frag} {mg : Str → Option Value} {base : Heap} {k : Nat} {f : Addr} {fd : FuncData} {ps : List Str} {sp : Sp} (F : FnOk P w K mg base (L2N.CX P w) k f fd ps sp) : FnOk P w K mg base CX0 k f fd ps (fun vs H Q _ => sp vs H Q (fun _ _ _ => False)) :=
  ⟨fun vs H Q E h => F.len vs H Q _ h, fun A outer s H args us vs Q E hr e0 hb r h => codeAny_mono (F.run A outer s H args us vs Q (fun _ _ _ => False) hr e0 hb r h) fun r' s' z => by
    match r', z with
    | .error _, z => exact z.elim fun _ ⟨_, _, _, _, _, _, _, _, _, _, _, q⟩ => q.elim
    | .ok (.ret u), z => exact z
    | .ok .next, z => exact z
    | .ok .brk, z => exact z
    | .ok .cont, z => exact z⟩

/-! ### values that are no numbers, or others -/
structure Shows (d : PyData) : Prop where
  ok : d.showable = true
  nod : d.hasDict = false
  deep : d.depth ≤ 30
  size : d.shown.length ≤ 10000 ∨ ∃ i, d = .int i
def ROdd (K : PySem.W.Frag) : Rep PyData := fun H v d => Shows d ∧ ((v = .non ∧ d = .none) ∨ (∃ b, v = .bl b ∧ d = .bool b) ∨ (∃ i, v = .int i ∧ d = .int i) ∨ (∃ s, v = .str s ∧ d = .str s) ∨
  ∃ (a : Addr) (b : Bool) (ns : List Int), v = .ref a ∧ Sq b K H a (ns.map V.int) ∧ d = if b then .list (ns.map PyData.int) else .tuple (ns.map PyData.int))
theorem ROdd.mono {K : PySem.W.Frag} : RMono (ROdd K) := fun _ _ _ _ s ⟨h, k⟩ => ⟨h, by
  rcases k with k | k | k | k | ⟨a, b, ns, e, hq, ed⟩
  · exact .inl k
  · exact .inr (.inl k)
  · exact .inr (.inr (.inl k))
  · exact .inr (.inr (.inr (.inl k)))
  · exact .inr (.inr (.inr (.inr ⟨a, b, ns, e, s.sq hq, ed⟩)))⟩
theorem ROdd.dp {K : PySem.W.Frag} {H : Hp} {v : V} {d : PyData} (h : ROdd K H v d) : Dp K H v d := by
  obtain ⟨_, ⟨rfl, rfl⟩ | ⟨b, rfl, rfl⟩ | ⟨i, rfl, rfl⟩ | ⟨s, rfl, rfl⟩ | ⟨a, b, ns, rfl, hq, rfl⟩⟩ := h
  · exact .non
  · exact .bl _
  · exact .int _
  · exact .str _
  · exact dp_ints hq
def inB (a b : Int) : PyData → Bool
  | .int i => decide (a ≤ i ∧ i ≤ b)
  | _ => false
theorem ROdd.between {K : PySem.W.Frag} {H : Hp} {v : V} {d : PyData} (h : ROdd K H v d) (a b : Int) : (∃ i, v = .int i ∧ inB a b d = decide (a ≤ i ∧ i ≤ b)) ∨ (inB a b d = false ∧ ∃ tn, TyX K H v (.type tn) ∧ (tn = "bool" ∨ tn = "NoneType" ∨ tn = "str" ∨ tn = "tuple" ∨ tn = "list")) := by
  obtain ⟨_, ⟨rfl, rfl⟩ | ⟨b, rfl, rfl⟩ | ⟨i, rfl, rfl⟩ | ⟨s, rfl, rfl⟩ | ⟨a, b, ns, rfl, hq, rfl⟩⟩ := h
  · exact .inr ⟨rfl, _, .base .non, .inr (.inl rfl)⟩
  · exact .inr ⟨rfl, _, .base (.bl _), .inl rfl⟩
  · exact .inl ⟨i, rfl, rfl⟩
  · exact .inr ⟨rfl, _, .base (.str _), .inr (.inr (.inl rfl))⟩
  · cases b with
    | true => exact .inr ⟨rfl, _, tyx_lst hq, .inr (.inr (.inr (.inr rfl)))⟩
    | false => exact .inr ⟨rfl, _, tyx_tup hq, .inr (.inr (.inr (.inl rfl)))⟩
theorem ROdd.int {K : PySem.W.Frag} {H : Hp} {i : Int} (h : i.natAbs.log2 < 1920) : ROdd K H (.int i) (.int i) := ⟨⟨by show decide (i.natAbs.log2 < 1920) = true; exact decide_eq_true h, rfl, by show (0 : Nat) ≤ 30; omega, .inr ⟨i, rfl⟩⟩, .inr (.inr (.inl ⟨i, rfl, rfl⟩))⟩
theorem log_small {i : Int} (h : i.natAbs < 2 ^ 200) : i.natAbs.log2 < 1920 := by
  by_cases h0 : i.natAbs = 0
  · rw [h0]; decide
  · exact Nat.lt_of_lt_of_le ((Nat.log2_lt h0).mpr h) (by omega)
theorem in_not {a b i : Int} (h : ¬ (a ≤ i ∧ i ≤ b)) : inB a b (.int i) = false := decide_eq_false h

/-! ### nets refused, letters refused -/
def spV_Net_is_letter (K : PySem.W.Frag) (C : Addr) : Sp := fun vs H Q _ => ∃ (p : Addr) (nd : NetD) (e x : V) (d : PyData), vs = [.ref p, x] ∧ IsNet K C H p nd e ∧ ROdd K H x d ∧ Q (.bl (inB 0 ((nd.emb.length : Int) - 1) d)) H
theorem okV_Net_is_letter (T : Txt K mg) : FnOk P w K mg base CX0 2 T.a_Net_is_letter T.d_Net_is_letter ["self", "value"] (spV_Net_is_letter K T.c_Net) := by
  refine T.F_Net_is_letter.ok sc_Net_is_letter (fun vs H Q E h => ?_) (fun cdv A outer s H vs Q E hr h => ?_)
  · obtain ⟨_, _, _, _, _, rfl, _⟩ := h
    rfl
  · obtain ⟨p, nd, e, x, d, rfl, hN, hx, k⟩ := h
    have cN := T.C_Net
    obtain ⟨dx, v1, v2, v3, v4, h0, h1, _⟩ := id hN
    unfold netF at h0
    obtain ⟨a1, xs1, rfl, hq1, hl1, _⟩ := id h1
    have n1 := T.n_Net_embed
    refine ⟨_, (pss_one (ps_ret (pe_call (ok_is_between T) (hr.mono (by decide)) (by rfl) T.g_is_between T.F_is_between.kp T.b_is_between .nil pass0 (pa_cons (pv 1) (pa_cons pe_int (pa_cons (pe_op op_sub (pe_callB (k_lenS (K := K) rfl) (by rfl) T.z_len (by decide +kernel) (pa_cons (k_fld (K := K) rfl (pv 0) rfl) pa_nil)) pe_int) pa_nil)))))), ?_⟩
    refine go_start (σ' := [some (.ref p), some x]) rfl ?_
    try dsimp only [cxOf, Cx.nox, Cx.wish]
    walk_at "GO"
    exact ⟨x, 0, (xs1.length : Int) - 1, inB 0 ((nd.emb.length : Int) - 1) d, rfl, by rw [hl1]; exact hx.between _ _, k⟩
theorem ok_Net_letters (T : Txt K mg) : FnOk P w K mg base CX0 1 T.a_Net_letters T.d_Net_letters ["self"] (fun vs H Q _ => ∃ (p : Addr) (nd : NetD) (e : V), vs = [.ref p] ∧ IsNet K T.c_Net H p nd e ∧ Q (.int ((nd.emb.length : Nat) : Int)) H) := by
  refine T.F_Net_letters.ok sc_Net_letters (fun vs H Q E h => ?_) (fun cdv A outer s H vs Q E hr h => ?_)
  · obtain ⟨_, _, _, rfl, _⟩ := h
    rfl
  · obtain ⟨p, nd, e, rfl, hN, k⟩ := h
    have cN := T.C_Net
    obtain ⟨dx, v1, v2, v3, v4, h0, h1, _⟩ := id hN
    unfold netF at h0
    obtain ⟨a1, xs1, rfl, hq1, hl1, _⟩ := id h1
    have n1 := T.n_Net_embed
    refine ⟨_, (pss_one (ps_ret (pe_callB (k_lenS (K := K) rfl) (by rfl) T.z_len (by decide +kernel) (pa_cons (k_fld (K := K) rfl (pv 0) rfl) pa_nil)))), ?_⟩
    refine go_start (σ' := [some (.ref p)]) rfl ?_
    try dsimp only [cxOf, Cx.nox, Cx.wish]
    walk_at "GO"
    rw [hl1]
    exact k
def sp_NetB (K : PySem.W.Frag) (CE : Addr) : Sp := fun vs H _ E => ∃ (a : Addr) (v v1 v2 v3 v4 ve : V) (d : PyData), vs = [.ref a, v, v1, v2, v3, v4, ve] ∧ ROdd K H v d ∧ (∀ i, d = .int i → i ∉ primes) ∧ RaiseQ E H CE "number" v
theorem okB_Net___init__ (T : Txt K mg) : FnOk P w K mg base (L2N.CX P w) 3 T.a_Net___init__ T.d_Net___init__ ["self", "prime", "embed", "shift", "layers", "out", "end"] (sp_NetB K T.c_InvalidNumber) := by
  refine T.F_Net___init__.okN sc_Net___init__ (fun vs H Q E h => ?_) (fun cdv A outer s H vs Q E hr h => ?_)
  · obtain ⟨_, _, _, _, _, _, _, _, rfl, _⟩ := h
    rfl
  · obtain ⟨a, v, v1, v2, v3, v4, ve, d, rfl, r, hp, k⟩ := h
    refine ⟨_, (pss_cons (ps_if (PW.pt (pw_or (pt_not (k_tru (K := K) rfl (pe_call (ok_is_between T) (hr.mono (by decide)) (by rfl) T.g_is_between T.F_is_between.kp T.b_is_between .nil pass0 (pa_cons (pv 1) (pa_cons pe_int (pa_cons pe_int pa_nil)))) (by intro _; rfl))) (pw_or1 (pt_cmpR (k_notInS (K := K) rfl) (pv 1) (pe_glob (v := .ref T.k_PRIMES) (by rfl) T.gk_PRIMES rfl) rfl)))) (pss_one (L2N.ps_raise rfl (L2N.takes_of rfl rfl rfl rfl) (pmk_oexN T.ox_InvalidNumber T.ic_InvalidNumber T.ti_InvalidNumber (ok_InvalidNumber___init__ T) (hr.mono (by decide)) T.b_InvalidNumber___init__ pass0 rfl T.gc_InvalidNumber (pa_cons (pv 1) pa_nil)))) pss_nil)
      (PSs.nox (pss_cons (k_sfld (K := K) rfl (pv 0) (pv 1) rfl)
      (pss_cons (k_sfld (K := K) rfl (pv 0) (pe_call (ok_matrix_of T) (hr.mono (by decide)) (by rfl) T.g_matrix_of T.F_matrix_of.kp T.b_matrix_of .nil pass0 (pa_cons (pv 2) pa_nil)) rfl)
      (pss_cons (k_sfld (K := K) rfl (pv 0) (pe_call (ok_vector_of T) (hr.mono (by decide)) (by rfl) T.g_vector_of T.F_vector_of.kp T.b_vector_of .nil pass0 (pa_cons (pv 3) pa_nil)) rfl)
      (pss_cons (k_sfld (K := K) rfl (pv 0) (pe_callTy (k_tupS (K := K) rfl) (by rfl) T.z_tuple (by decide +kernel) (pa_cons (pe_lc (own := [("layer", 7)]) (g := gName 7) (tt := tYes) rfl sc_Net___init__.nd (k_seqS (K := K) rfl (pv 4)) (blkOk_by (own := [("layer", 7)]) (by kernel_rfl)) (fun _ _ _ _ _ => (pg_name (i := 7) sc_Net___init__.nd rfl (by first | exact Or.inl rfl | exact Or.inr rfl))) (fun _ _ _ _ _ => pts_nil) (fun _ _ _ _ _ => (pe_callTy (k_tupS (K := K) rfl) (by rfl) T.z_tuple (by decide +kernel) (pa_cons (pe_lc (own := [("matrix", 8)]) (g := gName 8) (tt := tYes) rfl sc_Net___init__.nd (k_seqS (K := K) rfl (pv 7)) (blkOk_by (own := [("matrix", 8)]) (by kernel_rfl)) (fun _ _ _ _ _ => (pg_name (i := 8) sc_Net___init__.nd rfl (by first | exact Or.inl rfl | exact Or.inr rfl))) (fun _ _ _ _ _ => pts_nil) (fun _ _ _ _ _ => (pe_call (ok_matrix_of T) (hr.mono (by decide)) (by rfl) T.g_matrix_of T.F_matrix_of.kp T.b_matrix_of .nil pass0 (pa_cons (pv 8) pa_nil)))) pa_nil)))) pa_nil)) rfl)
      (pss_cons (k_sfld (K := K) rfl (pv 0) (pe_call (ok_matrix_of T) (hr.mono (by decide)) (by rfl) T.g_matrix_of T.F_matrix_of.kp T.b_matrix_of .nil pass0 (pa_cons (pv 5) pa_nil)) rfl)
      (pss_one (k_sfld (K := K) rfl (pv 0) (pv 6) rfl))))))))), ?_⟩
    refine go_start (σ' := [some (.ref a), some v, some v1, some v2, some v3, some v4, some ve, none, none]) rfl ?_
    try dsimp only [cxOf, Cx.nox, Cx.wish]
    walk_at "go"
    refine ⟨v, 2, 97, inB 2 97 d, rfl, r.between 2 97, ?_⟩
    cases e : inB 2 97 d with
    | false =>
      walk_at "go"
      exact w_raiseV T.ox_InvalidNumber T.nf_InvalidNumber rfl k
    | true =>
      obtain ⟨i, rfl⟩ : ∃ i, d = .int i := by
        cases d with
        | int i => exact ⟨i, rfl⟩
        | _ => cases e
      obtain ⟨_, h⟩ := r
      obtain rfl : v = .int i := by
        rcases h with ⟨_, h⟩ | ⟨_, _, h⟩ | ⟨_, e, h⟩ | ⟨_, _, h⟩ | ⟨_, b, _, _, _, h⟩
        · cases h
        · cases h
        · cases h; exact e
        · cases h
        · cases b <;> cases h
      walk_at "go"
      refine w_notInS (b := false) (T.tk_PRIMES H) rfl rfl ?_
      have ep : inV (.int i) (primes.map V.int) = false := by
        cases h : inV (.int i) (primes.map V.int) with
        | false => rfl
        | true =>
          obtain ⟨x, hx, hx2⟩ := List.any_eq_true.mp h
          obtain ⟨z, hz, rfl⟩ := List.mem_map.mp hx
          rw [eqV_int] at hx2
          exact absurd ((beq_iff_eq.mp hx2) ▸ hz) (hp i rfl)
      rw [show (primes.map V.int) = [.int 2, .int 3, .int 5, .int 7, .int 11, .int 13, .int 17, .int 19, .int 23, .int 29, .int 31, .int 37, .int 41, .int 43, .int 47, .int 53, .int 59, .int 61, .int 67, .int 71, .int 73, .int 79, .int 83, .int 89, .int 97] from rfl] at ep
      rw [ep]
      walk_at "go"
      exact w_raiseV T.ox_InvalidNumber T.nf_InvalidNumber rfl k
theorem okN_Net___init__ (T : Txt K mg) : FnOk P w K mg base (L2N.CX P w) 3 T.a_Net___init__ T.d_Net___init__ ["self", "prime", "embed", "shift", "layers", "out", "end"] (fun vs H Q E => sp_Net___init__ K T.c_Net vs H Q E ∨ sp_NetB K T.c_InvalidNumber vs H Q E) :=
  ((ok_Net___init__ T).cx0).or (okB_Net___init__ T)
def sp_rowB (K : PySem.W.Frag) (C CE : Addr) : Sp := fun vs H _ E => ∃ (p : Addr) (nd : NetD) (e v x : V) (d : PyData), vs = [.ref p, v, x] ∧ IsNet K C H p nd e ∧ ROdd K H x d ∧ inB 0 ((nd.emb.length : Int) - 1) d = false ∧ RaiseQ E H CE "letter" x
-- fresh
theorem okB_Net_row (T : Txt K mg) : FnOk P w K mg base (L2N.CX P w) 4 T.a_Net_row T.d_Net_row ["self", "rows", "letter"] (sp_rowB K T.c_Net T.c_InvalidLetter) := by
  refine T.F_Net_row.okN sc_Net_row (fun vs H Q E h => ?_) (fun cdv A outer s H vs Q E hr h => ?_)
  · obtain ⟨_, _, _, _, _, _, rfl, _⟩ := h
    rfl
  · obtain ⟨p, nd, e, v, x, d, rfl, hN, r, hb, k⟩ := h
    have cN := T.C_Net
    obtain ⟨dx, v1, v2, v3, v4, h0, h1, _⟩ := id hN
    unfold netF at h0
    refine ⟨_, (pss_cons (ps_if (pt_not (k_tru (K := K) rfl (pe_meth (pv 0) T.C_Net T.m_Net_is_letter (okV_Net_is_letter T) (hr.mono (by decide)) T.b_Net_is_letter .nil pass0 (pa_cons (pv 2) pa_nil)) (by intro _; rfl))) (pss_one (L2N.ps_raise rfl (L2N.takes_of rfl rfl rfl rfl) (pmk_oexN T.ox_InvalidLetter T.ic_InvalidLetter T.ti_InvalidLetter (ok_InvalidLetter___init__ T) (hr.mono (by decide)) T.b_InvalidLetter___init__ pass0 rfl T.gc_InvalidLetter (pa_cons (pv 2) pa_nil)))) pss_nil)
      (PSs.nox (pss_cons (ps_set (i := 3) sc_Net_row.nd rfl (Or.inr rfl) (pe_meth (pv 0) T.C_Net T.m_Net_plus (ok_Net_plus T) (hr.mono (by decide)) T.b_Net_plus .nil pass0 (pa_cons (pe_ix (k_ix (K := K) rfl) (k_fld (K := K) rfl (pv 0) rfl) (pv 2) (fun _ _ => rfl)) (pa_cons (pe_lc (own := [("number", 15)]) (g := gName 15) (tt := tYes) rfl sc_Net_row.nd (k_seqS (K := K) rfl (k_fld (K := K) rfl (pv 0) rfl)) (blkOk_by (own := [("number", 15)]) (by kernel_rfl)) (fun _ _ _ _ _ => (pg_name (i := 15) sc_Net_row.nd rfl (by first | exact Or.inl rfl | exact Or.inr rfl))) (fun _ _ _ _ _ => pts_nil) (fun _ _ _ _ _ => (pe_op op_mul (pe_callB (k_lenS (K := K) rfl) (by rfl) T.z_len (by decide +kernel) (pa_cons (pv 1) pa_nil)) (pv 15)))) pa_nil))))
      (pss_cons (ps_set (i := 4) sc_Net_row.nd rfl (Or.inl rfl) (pe_lst pa_nil))
      (pss_cons (ps_for PassesOwn.never rfl (k_enumS (K := K) rfl (by rfl) T.z_enumerate (pa_cons (k_fld (K := K) rfl (pv 0) rfl) pa_nil)) (k_tup (K := K) rfl rfl (pgs_cons (pg_name (i := 5) sc_Net_row.nd rfl (Or.inr rfl)) (pgs_cons (k_tup (K := K) rfl rfl (pgs_cons (pg_name (i := 6) sc_Net_row.nd rfl (Or.inl rfl)) (pgs_cons (pg_name (i := 7) sc_Net_row.nd rfl (Or.inl rfl)) (pgs_cons (pg_name (i := 8) sc_Net_row.nd rfl (Or.inl rfl)) (pgs_cons (pg_name (i := 9) sc_Net_row.nd rfl (Or.inl rfl)) (pgs_cons (pg_name (i := 10) sc_Net_row.nd rfl (Or.inl rfl)) pgs_nil)))))) pgs_nil)))
      (pss_cons (ps_set (i := 11) sc_Net_row.nd rfl (Or.inl rfl) (pe_tup (pa_cons (pe_meth (pv 0) T.C_Net T.m_Net_times (ok_Net_times T) (hr.mono (by decide)) T.b_Net_times .nil pass0 (pa_cons (pv 7) (pa_cons (pv 3) pa_nil))) (pa_cons (pe_meth (pv 0) T.C_Net T.m_Net_times (ok_Net_times T) (hr.mono (by decide)) T.b_Net_times .nil pass0 (pa_cons (pv 8) (pa_cons (pv 3) pa_nil))) pa_nil))))
      (pss_cons (ps_set (i := 12) sc_Net_row.nd rfl (Or.inl rfl) (pe_op (k_addG (K := K) rfl) (pe_lc (own := [("row", 16)]) (g := gName 16) (tt := tYes) rfl sc_Net_row.nd (k_seqS (K := K) rfl (pv 1)) (blkOk_by (own := [("row", 16)]) (by kernel_rfl)) (fun _ _ _ _ _ => (pg_name (i := 16) sc_Net_row.nd rfl (by first | exact Or.inl rfl | exact Or.inr rfl))) (fun _ _ _ _ _ => pts_nil) (fun _ _ _ _ _ => (pe_ix (k_ix (K := K) rfl) (pe_ix (k_ix (K := K) rfl) (pv 16) pe_int (fun _ _ => rfl)) (pv 5) (fun _ _ => rfl)))) (pe_lst (pa_cons (pv 11) pa_nil))))
      (pss_cons (ps_set (i := 3) sc_Net_row.nd rfl (Or.inr rfl) (pe_meth (pv 0) T.C_Net T.m_Net_plus (ok_Net_plus T) (hr.mono (by decide)) T.b_Net_plus .nil pass0 (pa_cons (pv 3) (pa_cons (pe_meth (pv 0) T.C_Net T.m_Net_looked_at (ok_Net_looked_at T) (hr.mono (by decide)) T.b_Net_looked_at .nil pass0 (pa_cons (pe_meth (pv 0) T.C_Net T.m_Net_times (ok_Net_times T) (hr.mono (by decide)) T.b_Net_times .nil pass0 (pa_cons (pv 6) (pa_cons (pv 3) pa_nil))) (pa_cons (pv 12) pa_nil))) pa_nil))))
      (pss_cons (ps_set (i := 3) sc_Net_row.nd rfl (Or.inr rfl) (pe_meth (pv 0) T.C_Net T.m_Net_plus (ok_Net_plus T) (hr.mono (by decide)) T.b_Net_plus .nil pass0 (pa_cons (pv 3) (pa_cons (pe_meth (pv 0) T.C_Net T.m_Net_times (ok_Net_times T) (hr.mono (by decide)) T.b_Net_times .nil pass0 (pa_cons (pv 10) (pa_cons (pe_lc (own := [("number", 15)]) (g := gName 15) (tt := tYes) rfl sc_Net_row.nd (k_seqS (K := K) rfl (pe_meth (pv 0) T.C_Net T.m_Net_times (ok_Net_times T) (hr.mono (by decide)) T.b_Net_times .nil pass0 (pa_cons (pv 9) (pa_cons (pv 3) pa_nil)))) (blkOk_by (own := [("number", 15)]) (by kernel_rfl)) (fun _ _ _ _ _ => (pg_name (i := 15) sc_Net_row.nd rfl (by first | exact Or.inl rfl | exact Or.inr rfl))) (fun _ _ _ _ _ => pts_nil) (fun _ _ _ _ _ => (pe_op op_mul (pv 15) (pv 15)))) pa_nil))) pa_nil))))
      (pss_one (ps_expr (k_bm (K := K) rfl PySem.F.plainAttrs_list PySem.F.slot_list_append PySem.F.type_list_append mt_append (pv 4) (pa_cons (pv 11) pa_nil)))))))))
      (pss_cons (ps_setLc (i := 13) (own := [("vector", 14)]) (g := gName 14) (tt := tYes) rfl sc_Net_row.nd rfl rfl (sw_true rfl rfl rfl (by decide +kernel)) (k_seqS (K := K) rfl (k_fld (K := K) rfl (pv 0) rfl)) (blkOk_by (own := [("vector", 14)]) (by kernel_rfl)) (fun _ _ _ _ _ => (pg_name (i := 14) sc_Net_row.nd rfl (by first | exact Or.inl rfl | exact Or.inr rfl))) (fun _ _ _ _ _ => pts_nil) (fun _ _ _ _ _ => (pe_op (k_addG (K := K) rfl) pe_int (pe_meth (pv 0) T.C_Net T.m_Net_rest (ok_Net_rest T) (hr.mono (by decide)) T.b_Net_rest .nil pass0 (pa_cons (pe_call (ok_product_sum T) (hr.mono (by decide)) (by rfl) T.g_product_sum T.F_product_sum.kp T.b_product_sum .nil pass0 (pa_cons (pv 14) (pa_cons (pv 3) pa_nil))) pa_nil)))))
      (pss_one (ps_ret (pe_tup (pa_cons (pe_callTy (k_tupS (K := K) rfl) (by rfl) T.z_tuple (by decide +kernel) (pa_cons (pv 4) pa_nil)) (pa_cons (pe_callTy (k_tupS (K := K) rfl) (by rfl) T.z_tuple (by decide +kernel) (pa_cons (pv 13) pa_nil)) pa_nil))))))))))), ?_⟩
    refine go_start (σ' := [some (.ref p), some v, some x, none, none, none, none, none, none, none, none, none, none, none, none, none, none]) rfl ?_
    try dsimp only [cxOf, Cx.nox, Cx.wish]
    walk_at "go"
    refine ⟨p, nd, e, x, d, rfl, hN, r, ?_⟩
    rw [hb]
    walk_at "go"
    exact w_raiseV T.ox_InvalidLetter T.nf_InvalidLetter rfl k
theorem okN_Net_row (T : Txt K mg) : FnOk P w K mg base (L2N.CX P w) 4 T.a_Net_row T.d_Net_row ["self", "rows", "letter"] (fun vs H Q E => sp_Net_row K T.c_Net vs H Q E ∨ sp_rowB K T.c_Net T.c_InvalidLetter vs H Q E) :=
  ((ok_Net_row T).cx0).or (okB_Net_row T)

/-! ### nested tuples as nested lists -/
def NestD : Nat → Type
  | 0 => Int
  | n + 1 => List (NestD n)
abbrev NestD.l {n : Nat} (ds : NestD (n + 1)) : List (NestD n) := ds
def RUp (K : PySem.W.Frag) : (n : Nat) → Rep (NestD n)
  | 0 => fun _ v i => v = .int i
  | n + 1 => RSeq false K (RUp K n)
/-- nested lists that are new over H0 -/
def RDn (H0 : Hp) : (n : Nat) → Rep (NestD n)
  | 0 => fun _ v i => v = .int i
  | n + 1 => fun H v ds => ∃ b ys, v = .ref b ∧ H0 b = none ∧ H b = some (.lst ys) ∧ ys.length = (NestD.l ds).length ∧ ∀ (i : Nat) y d, ys[i]? = some y → (NestD.l ds)[i]? = some d → RDn H0 n H y d
def Few : (n : Nat) → NestD n → Prop
  | 0, _ => True
  | n + 1, ds => (NestD.l ds).length ≤ 1000 ∧ ∀ d ∈ (NestD.l ds), Few n d
theorem RUp.mono {K : PySem.W.Frag} : ∀ {n : Nat}, RMono (RUp K n)
  | 0 => fun _ _ _ _ _ h => h
  | n + 1 => RSeq.mono RUp.mono
theorem RDn.mono {H0 : Hp} : ∀ {n : Nat}, RMono (RDn H0 n)
  | 0 => fun _ _ _ _ _ h => h
  | n + 1 => fun _ _ _ _ s ⟨b, ys, e, h0, h1, h2, h3⟩ => ⟨b, ys, e, h0, s _ _ h1, h2, fun i y d a b => RDn.mono _ _ _ _ s (h3 i y d a b)⟩
theorem RDn.over {H0 H1 : Hp} (s : Same H0 H1) : ∀ {n : Nat} {H : Hp} {v : V} {d : NestD n}, RDn H1 n H v d → RDn H0 n H v d
  | 0, _, _, _, h => h
  | n + 1, _, _, _, ⟨b, ys, e, h0, h1, h2, h3⟩ => ⟨b, ys, e, none_back s h0, h1, h2, fun i y d a b => RDn.over s (h3 i y d a b)⟩
theorem RDn.hide {H0 : Hp} {D : Addr} {o : HO} (hD : H0 D = some o) : ∀ {n : Nat} {H : Hp} {v : V} {d : NestD n}, RDn H0 n H v d → RDn H0 n (hide D H) v d
  | 0, _, _, _, h => h
  | n + 1, _, _, _, ⟨b, ys, e, h0, h1, h2, h3⟩ => ⟨b, ys, e, h0, by rw [hide_ne (fun e => by rw [e, hD] at h0; cases h0)]; exact h1, h2, fun i y d a b => RDn.hide hD (h3 i y d a b)⟩
def sp_L_listed (K : PySem.W.Frag) (n : Nat) : Sp := fun vs H Q _ => ∃ (m : Nat) (x : V) (d : NestD m), m ≤ n ∧ vs = [x] ∧ RUp K m H x d ∧ Few m d ∧ ∀ y H', Same H H' → RDn H m H' y d → Q y H'
theorem listed_step (T : Txt K mg) {n k : Nat} (G : FnOk P w K mg base CX0 k T.a_L_listed T.d_L_listed ["_law_value"] (fun vs H Q E => ∃ m, n = m + 1 ∧ sp_L_listed K m vs H Q E)) :
    FnOk P w K mg base CX0 (k + 1) T.a_L_listed T.d_L_listed ["_law_value"] (sp_L_listed K n) := by
  refine T.F_L_listed.ok sc_L_listed (fun vs H Q E h => ?_) (fun cdv A outer s H vs Q E hr h => ?_)
  · obtain ⟨_, _, _, _, rfl, _⟩ := h
    rfl
  · obtain ⟨m, x, d, hm, rfl, hx, hf, q⟩ := h
    refine ⟨_, (pss_cons (ps_if (k_tru (K := K) rfl (pe_callB (k_isi (K := K) rfl) (by rfl) T.z_isinstance (by decide +kernel) (pa_cons (pv 0) (pa_cons (pe_bltn (v := .ty "tuple") (by rfl) T.z_tuple (by decide +kernel) rfl) pa_nil))) (by intro _; rfl)) (pss_one (ps_ret (pe_lc (own := [("_law_one", 1)]) (g := gName 1) (tt := tYes) rfl sc_L_listed.nd (k_seqS (K := K) rfl (pv 0)) (blkOk_by (own := [("_law_one", 1)]) (by kernel_rfl)) (fun _ _ _ _ _ => (pg_name (i := 1) sc_L_listed.nd rfl (by first | exact Or.inl rfl | exact Or.inr rfl))) (fun _ _ _ _ _ => pts_nil) (fun _ _ _ _ _ => (pe_call G hr (by rfl) T.g_L_listed T.F_L_listed.kp T.b_L_listed .nil pass0 (pa_cons (pv 1) pa_nil)))))) pss_nil)
      (pss_one (ps_ret (pv 0)))), ?_⟩
    refine go_start (σ' := [some x, none]) rfl ?_
    try dsimp only [cxOf, Cx.nox, Cx.wish]
    match m, d, hx, hf, hm, q with
    | 0, d, hx, hf, hm, q =>
      have hx : x = .int d := hx
      subst hx
      walk_at "go"
      refine w_isi (tn := "int") (b := false) (.base (.int _)) (by decide +kernel) ?_
      walk_at "go"
      exact q _ _ (Same.refl _) rfl
    | m + 1, ds, hx, hf, hm, q =>
      obtain ⟨a, xs, rfl, hS, hl, hr⟩ := hx
      have hl : xs.length = (NestD.l ds).length := hl
      have hr : ∀ (i : Nat) y x, xs[i]? = some y → (NestD.l ds)[i]? = some x → RUp K m H y x := hr
      have hf : (NestD.l ds).length ≤ 1000 ∧ ∀ d ∈ (NestD.l ds), Few m d := hf
      walk_at "go"
      refine w_isi (tn := "tuple") (b := true) (tyx_tup hS) (by decide +kernel) ?_
      walk_at "go"
      refine l_compS xs hS (line_of (by omega)) (fun i y H' => ∀ d, (NestD.l ds)[i]? = some d → RDn H m H' y d) (fun i y H1 H2 s h d hd => RDn.mono _ _ _ _ s (h d hd)) (fun _ => rfl) (fun i x H1 D acc N hi hx s1 hD e1 hN => ?_) (fun D H' ys hD s1 e hyl hy => ?_)
      · obtain ⟨d, hd⟩ : ∃ d, (NestD.l ds)[i]? = some d := ⟨(NestD.l ds)[i]'(by omega), List.getElem?_eq_getElem (by omega)⟩
        walk_at "go"
        refine ⟨n - 1, by omega, m, x, d, by omega, rfl, RUp.mono _ _ _ _ s1 (hr i x d hx hd), hf.2 d (List.mem_of_getElem? hd), fun y H2 s2 r2 => ?_⟩
        refine hN y H2 s2 fun d' hd' => ?_
        rw [hd] at hd'
        cases hd'
        exact RDn.over s1 (RDn.hide e1 r2)
      · walk_at "go"
        exact q _ _ s1 ⟨D, ys, rfl, hD, e, by rw [hyl]; exact hl, fun i y d h1 h2 => RDn.mono _ _ _ _ (hide_same D H') (hy i y h1 d h2)⟩
theorem ok_L_listed_at (T : Txt K mg) : ∀ n : Nat, FnOk P w K mg base CX0 (n + 1) T.a_L_listed T.d_L_listed ["_law_value"] (sp_L_listed K n)
  | 0 => listed_step T (k := 0) ⟨fun vs H Q E h => by obtain ⟨m, e, _⟩ := h; exact absurd e (by omega), fun A outer s H args us vs Q E hr he hb hv h => by obtain ⟨m, e, _⟩ := h; exact absurd e (by omega)⟩
  | n + 1 => listed_step T ((ok_L_listed_at T n).imp fun vs H Q E h => by
      obtain ⟨m, e, h⟩ := h
      have e2 : m = n := by omega
      subst e2
      exact h)

/-! ### lists changed later -/
def IntL (n : Nat) (H : Hp) (a : Addr) : Prop := ∃ ns : List Int, H a = some (.lst (ns.map V.int)) ∧ ns.length ≤ n
theorem IntL.up {n m : Nat} {H : Hp} {a : Addr} (h : IntL n H a) (hm : n ≤ m) : IntL m H a := by
  obtain ⟨ns, e, hl⟩ := h
  exact ⟨ns, e, by omega⟩
theorem ok_L_spoilt_one (T : Txt K mg) : FnOk P w K mg base CX0 1 T.a_L_spoilt_one T.d_L_spoilt_one ["_law_row_here"] (fun vs H Q _ => ∃ (a : Addr) (n : Nat), vs = [.ref a] ∧ IntL n H a ∧ n ≤ 1000 ∧ ∀ H', Fr a H H' → IntL (n + 1) H' a → Q .non H') := by
  refine T.F_L_spoilt_one.ok sc_L_spoilt_one (fun vs H Q E h => ?_) (fun cdv A outer s H vs Q E hr h => ?_)
  · obtain ⟨_, _, rfl, _⟩ := h
    rfl
  · obtain ⟨a, n, rfl, ⟨ns, ha, hn⟩, hn2, k⟩ := h
    refine ⟨_, (pss_cons (ps_for PassesOwn.never rfl (pi_range1 rfl T.z_range (pa_cons (pe_callB (k_lenS (K := K) rfl) (by rfl) T.z_len (by decide +kernel) (pa_cons (pv 0) pa_nil)) pa_nil)) (pg_name (i := 1) sc_L_spoilt_one.nd rfl (Or.inl rfl))
      (pss_one (ps_if (k_tru (K := K) rfl (pe_callB (k_isi (K := K) rfl) (by rfl) T.z_isinstance (by decide +kernel) (pa_cons (pe_ix (k_ix (K := K) rfl) (pv 0) (pv 1) (fun _ _ => rfl)) (pa_cons (pe_bltn (v := .ty "int") (by rfl) T.z_int (by decide +kernel) rfl) pa_nil))) (by intro _; rfl)) (pss_one (ps_asg (pe_op (k_addG (K := K) rfl) (pe_ix (k_ix (K := K) rfl) (pv 0) (pv 1) (fun _ _ => rfl)) pe_int) (pg_sub (pv 0) (pv 1) set_list))) pss_nil)))
      (pss_one (ps_expr (k_bm (K := K) rfl PySem.F.plainAttrs_list PySem.F.slot_list_append PySem.F.type_list_append mt_append (pv 0) (pa_cons pe_int pa_nil))))), ?_⟩
    refine go_start (σ' := [some (.ref a), none]) rfl ?_
    try dsimp only [cxOf, Cx.nox, Cx.wish]
    walk_at "go"
    have hS : Sq true K H a (ns.map V.int) := Sq.lst ha
    walk_at "go"
    refine l_range (fun i σ H' => ∃ (y1 : Option V) (ms : List Int), σ = [some (.ref a), y1] ∧ Fr a H H' ∧ H' a = some (.lst (ms.map V.int)) ∧ ms.length = ns.length) (by omega) (by omega) ⟨none, ns, rfl, Fr.refl _ _, ha, rfl⟩ ?_ ?_
    · rintro i σ H1 hi ⟨y1, ms, rfl, f1, e1, hl1⟩
      have h1 : Sq true K H1 a (ms.map V.int) := Sq.lst e1
      walk_at "go"
      refine w_isi (tn := "int") (b := true) (.base (.int _)) (by decide +kernel) ?_
      walk_at "go"
      refine w_setI (k := ((i : Nat) : Int)) e1 (by omega) (by omega) ?_
      walk_at "go"
      exact ⟨_, _, rfl, f1.upd _, upd_same, by rw [List.length_set]; exact hl1⟩
    · rintro σ H1 ⟨y1, ms, rfl, f1, e1, hl1⟩
      walk_at "go"
      refine w_append e1 (line_of1 (by rw [List.length_map]; omega)) ?_
      walk_at "go"
      exact k _ (f1.upd _) ⟨ms ++ [1], by rw [upd_same, List.map_append]; rfl, by rw [List.length_append]; show ms.length + 1 ≤ _; omega⟩
/-- the listed ones are lists of numbers, all else stands -/
theorem ok_L_spoilt (T : Txt K mg) : FnOk P w K mg base CX0 2 T.a_L_spoilt T.d_L_spoilt ["_law_listed_here"] (fun vs H Q _ => ∃ (b : Addr) (as : List Addr) (n : Nat), vs = [.ref b] ∧ H b = some (.lst (as.map V.ref)) ∧ (∀ a ∈ as, IntL n H a) ∧ n + as.length ≤ 1000 ∧ ∀ H', (∀ c o, c ∉ as → H c = some o → H' c = some o) → (∀ a ∈ as, IntL (n + as.length) H' a) → Q .non H') := by
  refine T.F_L_spoilt.ok sc_L_spoilt (fun vs H Q E h => ?_) (fun cdv A outer s H vs Q E hr h => ?_)
  · obtain ⟨_, _, _, rfl, _⟩ := h
    rfl
  · obtain ⟨b, as, n, rfl, hb, hI, hn, k⟩ := h
    have hml : (as.map V.ref).length = as.length := List.length_map ..
    have hba : b ∉ as := fun h => by
      obtain ⟨ns, e, _⟩ := hI b h
      rw [hb] at e
      cases as with
      | nil => simp at h
      | cons a r =>
        cases ns with
        | nil => simp at e
        | cons => simp at e
    refine ⟨_, (pss_one (ps_for PassesOwn.never rfl (pi_range1 rfl T.z_range (pa_cons (pe_callB (k_lenS (K := K) rfl) (by rfl) T.z_len (by decide +kernel) (pa_cons (pv 0) pa_nil)) pa_nil)) (pg_name (i := 1) sc_L_spoilt.nd rfl (Or.inl rfl))
      (pss_one (ps_if (k_tru (K := K) rfl (pe_callB (k_isi (K := K) rfl) (by rfl) T.z_isinstance (by decide +kernel) (pa_cons (pe_ix (k_ix (K := K) rfl) (pv 0) (pv 1) (fun _ _ => rfl)) (pa_cons (pe_bltn (v := .ty "list") (by rfl) T.z_list (by decide +kernel) rfl) pa_nil))) (by intro _; rfl)) (pss_one (ps_expr (pe_call (ok_L_spoilt_one T) (hr.mono (by decide)) (by rfl) T.g_L_spoilt_one T.F_L_spoilt_one.kp T.b_L_spoilt_one .nil pass0 (pa_cons (pe_ix (k_ix (K := K) rfl) (pv 0) (pv 1) (fun _ _ => rfl)) pa_nil)))) pss_nil)))), ?_⟩
    refine go_start (σ' := [some (.ref b), none]) rfl ?_
    try dsimp only [cxOf, Cx.nox, Cx.wish]
    walk_at "go"
    have hS : Sq true K H b (as.map V.ref) := Sq.lst hb
    walk_at "go"
    refine l_range (fun i σ H' => ∃ (y1 : Option V), σ = [some (.ref b), y1] ∧ (∀ c o, c ∉ as → H c = some o → H' c = some o) ∧ ∀ a ∈ as, IntL (n + i) H' a) (by omega) (by omega) ⟨none, rfl, fun _ _ _ e => e, hI⟩ ?_ ?_
    · rintro i σ H1 hi ⟨y1, rfl, f1, i1⟩
      have hi' : i < as.length := by omega
      have h1 : Sq true K H1 b (as.map V.ref) := Sq.lst (f1 _ _ hba hb)
      have hai : as[i]? = some (as[i]'hi') := List.getElem?_eq_getElem hi'
      have ham := List.mem_of_getElem? hai
      generalize as[i]'hi' = ai at hai ham
      have hx : (as.map V.ref)[i]? = some (.ref ai) := by rw [List.getElem?_map, hai]; rfl
      walk_at "go"
      refine w_ix h1 (atI_nat hx) ?_
      obtain ⟨ns, e, hl⟩ := i1 ai ham
      have ha1 : Sq true K H1 ai (ns.map V.int) := Sq.lst e
      walk_at "go"
      refine w_isi (tn := "list") (b := true) (tyx_lst ha1) (by decide +kernel) ?_
      walk_at "go"
      refine w_ix h1 (atI_nat hx) ?_
      walk_at "go"
      refine ⟨ai, n + i, rfl, i1 ai ham, by omega, fun H2 f2 i2 => ?_⟩
      walk_at "go"
      refine ⟨_, rfl, fun c o hc e => f2 c o (fun z => hc (z ▸ ham)) (f1 c o hc e), fun a ha => ?_⟩
      by_cases e : a = ai
      · subst e; exact i2
      · obtain ⟨ms, e2, hl2⟩ := i1 a ha
        exact ⟨ms, f2 _ _ e e2, by omega⟩
    · rintro σ H1 ⟨y1, rfl, f1, i1⟩
      walk_at "go"
      exact k _ f1 fun a ha => (i1 a ha).up (by omega)

/-! ### the odd values -/
def sp_L_odd (K : PySem.W.Frag) : Sp := fun vs H Q _ => ∃ (a g : Addr) (ns gs : List Int) (k most : Int), vs = [.ref a, .int k, .ref g, .int most] ∧ H a = some (.lst (ns.map V.int)) ∧ (∀ x ∈ ns, 0 ≤ x ∧ x < 1000) ∧ 0 ≤ k ∧ k + 1 < ns.length ∧ H g = some (.lst (gs.map V.int)) ∧ 1 ≤ most ∧ most ≤ 100 ∧
  ∀ v d H', Same H H' → ROdd K H' v d → (∀ i, d = .int i → i ∉ gs) → Q v H'
theorem ok_L_odd (T : Txt K mg) : FnOk P w K mg base CX0 1 T.a_L_odd T.d_L_odd ["_law_numbers_here", "_law_k", "_law_good", "_law_most"] (sp_L_odd K) := by
  refine T.F_L_odd.ok sc_L_odd (fun vs H Q E h => ?_) (fun cdv A outer s H vs Q E hr h => ?_)
  · obtain ⟨_, _, _, _, _, _, rfl, _⟩ := h
    rfl
  · obtain ⟨a, g, ns, gs, kk, most, rfl, ha, hb, hk0, hk1, hg, hm0, hm1, k⟩ := h
    refine ⟨_, (pss_cons (ps_set (i := 4) sc_L_odd.nd rfl (Or.inl rfl) (pe_lst (pa_cons (pe_un un_neg pe_int) (pa_cons (pv 3) (pa_cons pe_int (pa_cons pe_int (pa_cons pe_int (pa_cons pe_int (pa_cons pe_int (pa_cons (pe_op op_pow pe_int pe_int) (pa_cons pe_bl (pa_cons pe_bl (pa_cons pe_non (pa_cons pe_str (pa_cons (pe_tup (pa_cons pe_int pa_nil)) (pa_cons (pe_lst (pa_cons pe_int pa_nil)) (pa_cons (pe_tup pa_nil) (pa_cons (pe_op (k_addG (K := K) rfl) (pv 3) pe_int) pa_nil))))))))))))))))))
      (pss_cons (ps_set (i := 5) sc_L_odd.nd rfl (Or.inl rfl) (pe_op op_mod (pe_callTy cr_int1 (by rfl) T.z_int (by decide +kernel) (pa_cons (pe_ix (k_ix (K := K) rfl) (pv 0) (pe_op (k_addG (K := K) rfl) (pv 1) pe_int) (fun _ _ => rfl)) pa_nil)) pe_int))
      (pss_cons (ps_set (i := 6) sc_L_odd.nd rfl (Or.inl rfl) (pe_ix (k_ix (K := K) rfl) (pe_op (k_addG (K := K) rfl) (pv 4) (pe_lst (pa_cons (pe_op op_mod (pe_callTy cr_int1 (by rfl) T.z_int (by decide +kernel) (pa_cons (pe_ix (k_ix (K := K) rfl) (pv 0) (pe_op (k_addG (K := K) rfl) (pv 1) pe_int) (fun _ _ => rfl)) pa_nil)) pe_int) (pa_cons (pv 5) (pa_cons (pv 5) pa_nil))))) (pe_op op_mod (pe_callTy cr_int1 (by rfl) T.z_int (by decide +kernel) (pa_cons (pe_ix (k_ix (K := K) rfl) (pv 0) (pv 1) (fun _ _ => rfl)) pa_nil)) pe_int) (fun _ _ => rfl)))
      (pss_cons (ps_if (PW.pt (pw_and (k_tru (K := K) rfl (pe_callB (k_isi (K := K) rfl) (by rfl) T.z_isinstance (by decide +kernel) (pa_cons (pv 6) (pa_cons (pe_bltn (v := .ty "int") (by rfl) T.z_int (by decide +kernel) rfl) pa_nil))) (by intro _; rfl)) (pw_and (pt_not (k_tru (K := K) rfl (pe_callB (k_isi (K := K) rfl) (by rfl) T.z_isinstance (by decide +kernel) (pa_cons (pv 6) (pa_cons (pe_bltn (v := .ty "bool") (by rfl) T.z_bool (by decide +kernel) rfl) pa_nil))) (by intro _; rfl))) (pw_and1 (pt_cmpR (k_inS (K := K) rfl) (pv 6) (pv 2) rfl))))) (pss_one (ps_ret pe_non)) pss_nil)
      (pss_one (ps_ret (pv 6))))))), ?_⟩
    refine go_start (σ' := [some (.ref a), some (.int kk), some (.ref g), some (.int most), none, none, none]) rfl ?_
    try dsimp only [cxOf, Cx.nox, Cx.wish]
    have mk := hb _ (nth_mem (ns := ns) (i := kk) (by omega) (by omega))
    have mk1 := hb _ (nth_mem (ns := ns) (i := kk + 1) (by omega) (by omega))
    walk_at "GO"
    rename_i p1 H1 hp1 s1 e1 p2 H2 hp2 s2 e2 p3 H3 hp3 s3 e3 p4 H4 hp4 s4 e4 p5 H5 hp5 s5 e5
    refine w_catLL (s5 _ _ e4) e5 (by show 16 + 3 ≤ sizeLine; decide) fun p6 hp6 => ?_
    have s6 := Same.new (o := .lst ([V.int (-1), V.int most, V.int 0, V.int 1, V.int 9, V.int 91, V.int 101, V.int (10 ^ Int.toNat 30), V.bl true, V.bl false, V.non, V.str (Str.ofString "2"), V.ref p1, V.ref p2, V.ref p3, V.int (most + 7)] ++ [V.int (nth ns (kk + 1) % 130), V.int (nth ns (kk + 1) % 98), V.int (nth ns (kk + 1) % 98)])) hp6
    have big : (10 : Int) ^ Int.toNat 30 = 1000000000000000000000000000000 := by decide
    rw [big] at s6 ⊢
    have e6 : (upd H5 p6 (.lst ([V.int (-1), V.int most, V.int 0, V.int 1, V.int 9, V.int 91, V.int 101, V.int 1000000000000000000000000000000, V.bl true, V.bl false, V.non, V.str (Str.ofString "2"), V.ref p1, V.ref p2, V.ref p3, V.int (most + 7)] ++ [V.int (nth ns (kk + 1) % 130), V.int (nth ns (kk + 1) % 98), V.int (nth ns (kk + 1) % 98)]))) p6 = some (.lst [V.int (-1), V.int most, V.int 0, V.int 1, V.int 9, V.int 91, V.int 101, V.int 1000000000000000000000000000000, V.bl true, V.bl false, V.non, V.str (Str.ofString "2"), V.ref p1, V.ref p2, V.ref p3, V.int (most + 7), V.int (nth ns (kk + 1) % 130), V.int (nth ns (kk + 1) % 98), V.int (nth ns (kk + 1) % 98)]) := upd_same
    generalize upd H5 p6 _ = H6 at s6 e6 ⊢
    have s26 := ((s3.trans s4).trans s5).trans s6
    have s06 := (s1.trans s2).trans s26
    have t1 := (s2.trans s26) _ _ e1
    have t2 := s26 _ _ e2
    have t3 := ((s4.trans s5).trans s6) _ _ e3
    have ha6 := s06 _ _ ha
    have hg6 := s06 _ _ hg
    clear s1 s2 s3 s4 s5 s6 e1 e2 e3 e4 e5 s26
    walk_at "GO"
    have hall : ∀ (j : Nat) y, [V.int (-1), V.int most, V.int 0, V.int 1, V.int 9, V.int 91, V.int 101, V.int 1000000000000000000000000000000, V.bl true, V.bl false, V.non, V.str (Str.ofString "2"), V.ref p1, V.ref p2, V.ref p3, V.int (most + 7), V.int (nth ns (kk + 1) % 130), V.int (nth ns (kk + 1) % 98), V.int (nth ns (kk + 1) % 98)][j]? = some y → ∃ d, ROdd K H6 y d := fun j y hy => by
      match j, hy with
      | 0, hy => cases hy; exact ⟨_, ROdd.int (by decide)⟩
      | 1, hy => cases hy; exact ⟨_, ROdd.int (log_small (by show (most).natAbs < _; have : (2 : Nat) ^ 200 > 1000 := (by decide); omega))⟩
      | 2, hy => cases hy; exact ⟨_, ROdd.int (by decide)⟩
      | 3, hy => cases hy; exact ⟨_, ROdd.int (by decide)⟩
      | 4, hy => cases hy; exact ⟨_, ROdd.int (by decide)⟩
      | 5, hy => cases hy; exact ⟨_, ROdd.int (by decide)⟩
      | 6, hy => cases hy; exact ⟨_, ROdd.int (by decide)⟩
      | 7, hy => cases hy; exact ⟨_, ROdd.int (by decide)⟩
      | 8, hy => cases hy; exact ⟨.bool true, ⟨⟨rfl, rfl, Nat.zero_le _, .inl (by decide +kernel)⟩, .inr (.inl ⟨_, rfl, rfl⟩)⟩⟩
      | 9, hy => cases hy; exact ⟨.bool false, ⟨⟨rfl, rfl, Nat.zero_le _, .inl (by decide +kernel)⟩, .inr (.inl ⟨_, rfl, rfl⟩)⟩⟩
      | 10, hy => cases hy; exact ⟨.none, ⟨⟨rfl, rfl, Nat.zero_le _, .inl (by decide +kernel)⟩, .inl ⟨rfl, rfl⟩⟩⟩
      | 11, hy => cases hy; exact ⟨.str (Str.ofString "2"), ⟨⟨rfl, rfl, Nat.zero_le _, .inl (by decide +kernel)⟩, .inr (.inr (.inr (.inl ⟨_, rfl, rfl⟩)))⟩⟩
      | 12, hy => cases hy; exact ⟨.tuple [.int 2], ⟨⟨by decide +kernel, by decide +kernel, by decide +kernel, .inl (by decide +kernel)⟩, .inr (.inr (.inr (.inr ⟨p1, false, [2], rfl, Sq.tup t1, rfl⟩)))⟩⟩
      | 13, hy => cases hy; exact ⟨.list [.int 3], ⟨⟨by decide +kernel, by decide +kernel, by decide +kernel, .inl (by decide +kernel)⟩, .inr (.inr (.inr (.inr ⟨p2, true, [3], rfl, Sq.lst t2, rfl⟩)))⟩⟩
      | 14, hy => cases hy; exact ⟨.tuple [], ⟨⟨by decide +kernel, by decide +kernel, by decide +kernel, .inl (by decide +kernel)⟩, .inr (.inr (.inr (.inr ⟨p3, false, [], rfl, Sq.tup t3, rfl⟩)))⟩⟩
      | 15, hy => cases hy; exact ⟨_, ROdd.int (log_small (by show (most + 7).natAbs < _; have : (2 : Nat) ^ 200 > 1000 := (by decide); omega))⟩
      | 16, hy => cases hy; exact ⟨_, ROdd.int (log_small (by show (nth ns (kk + 1) % 130).natAbs < _; have : (2 : Nat) ^ 200 > 1000 := (by decide); omega))⟩
      | 17, hy => cases hy; exact ⟨_, ROdd.int (log_small (by show (nth ns (kk + 1) % 98).natAbs < _; have : (2 : Nat) ^ 200 > 1000 := (by decide); omega))⟩
      | 18, hy => cases hy; exact ⟨_, ROdd.int (log_small (by show (nth ns (kk + 1) % 98).natAbs < _; have : (2 : Nat) ^ 200 > 1000 := (by decide); omega))⟩
      | j + 19, hy => simp at hy
    obtain ⟨j, hj, hj2⟩ : ∃ j : Nat, nth ns kk % 19 = (j : Int) ∧ j < 19 := ⟨(nth ns kk % 19).toNat, by omega, by omega⟩
    obtain ⟨y, hy⟩ : ∃ y, [V.int (-1), V.int most, V.int 0, V.int 1, V.int 9, V.int 91, V.int 101, V.int 1000000000000000000000000000000, V.bl true, V.bl false, V.non, V.str (Str.ofString "2"), V.ref p1, V.ref p2, V.ref p3, V.int (most + 7), V.int (nth ns (kk + 1) % 130), V.int (nth ns (kk + 1) % 98), V.int (nth ns (kk + 1) % 98)][j]? = some y := ⟨_, List.getElem?_eq_getElem (by show j < 19; omega)⟩
    obtain ⟨d, hd⟩ := hall j y hy
    rw [hj]
    refine w_ix (Sq.lst e6) (atI_nat hy) ?_
    clear hall hy e6 t1 t2 t3
    have hno : (∀ i, d ≠ .int i) → Q y H6 := fun h => k y d H6 s06 hd fun i e => absurd e (h i)
    have hty := hd.between 0 0
    obtain ⟨i, rfl⟩ | hni : (∃ i, y = .int i) ∨ ∀ i, y ≠ .int i := by
      cases y with
      | int i => exact .inl ⟨i, rfl⟩
      | _ => exact .inr fun i e => nomatch e
    · obtain rfl : d = .int i := by
        obtain ⟨_, ⟨h, _⟩ | ⟨_, h, _⟩ | ⟨_, h, h2⟩ | ⟨_, h, _⟩ | ⟨_, _, _, h, _⟩⟩ := hd
        · cases h
        · cases h
        · cases h; exact h2
        · cases h
        · cases h
      walk_at "GO"
      refine w_isi (tn := "int") (b := true) (.base (.int _)) (by decide +kernel) ?_
      walk_at "GO"
      refine w_isi (tn := "int") (b := false) (.base (.int _)) (by decide +kernel) ?_
      walk_at "GO"
      refine ⟨g, _, rfl, .inl (Sq.lst hg6), rfl, List.all_eq_true.mpr fun x hx => (by obtain ⟨z, _, rfl⟩ := List.mem_map.mp hx; rfl), ?_⟩
      cases e : inV (.int i) (gs.map V.int) with
      | true =>
        walk_at "GO"
        exact k .non .none H6 s06 ⟨⟨rfl, rfl, Nat.zero_le _, .inl (by decide +kernel)⟩, .inl ⟨rfl, rfl⟩⟩ fun i e => nomatch e
      | false =>
        simp only [Bool.false_eq_true, if_false]
        walk_at "GO"
        refine k _ _ H6 s06 hd fun i' e' hm => ?_
        cases e'
        have : inV (.int i) (gs.map V.int) = true := List.any_eq_true.mpr ⟨.int i, List.mem_map.mpr ⟨i, hm, rfl⟩, by rw [eqV_int]; exact beq_self_eq_true i⟩
        rw [e] at this
        cases this
    · have hq := hno fun i e => by
        subst e
        obtain ⟨_, ⟨_, h⟩ | ⟨_, _, h⟩ | ⟨_, h, _⟩ | ⟨_, _, h⟩ | ⟨_, b, _, _, _, h⟩⟩ := hd
        · cases h
        · cases h
        · exact hni _ h
        · cases h
        · cases b <;> cases h
      rcases hty with ⟨i, e, _⟩ | ⟨_, tn, ht, h5⟩
      · exact absurd e (hni i)
      · walk_at "GO"
        rcases h5 with rfl | h5
        · refine w_isi (tn := "bool") (b := true) ht (by decide +kernel) ?_
          walk_at "GO"
          refine w_isi (tn := "bool") (b := true) ht (by decide +kernel) ?_
          walk_at "GO"
          exact hq
        · have e : kitB tn "int" = some false := by rcases h5 with rfl | rfl | rfl | rfl <;> decide +kernel
          refine w_isi (tn := tn) (b := false) ht e ?_
          walk_at "GO"
          exact hq

/-! ### what is refused -/
def sp_L_ask01 (K : PySem.W.Frag) (C : Addr) : Sp := fun vs H Q _ => ∃ (v x : V) (wd : Str) (d : PyData), vs = [v, .str wd, x] ∧ ROdd K H x d ∧
  ((wd = "net" ∧ (∃ a v0 v1 v2 v3 v4, v = .ref a ∧ Sq false K H a [v0, v1, v2, v3, v4]) ∧ (∀ i, d = .int i → i ∉ primes) ∧ ∀ p H', Same H H' → SqT K H' p [.str "InvalidNumber", .str d.shown] → Q (.ref p) H') ∨
   (wd = "row" ∧ (∃ q nd e, v = .ref q ∧ IsNet K C H q nd e ∧ inB 0 ((nd.emb.length : Int) - 1) d = false) ∧ ∀ p H', Same H H' → SqT K H' p [.str "InvalidLetter", .str d.shown] → Q (.ref p) H'))
theorem ok_L_ask (T : Txt K mg) : FnG P w K mg base CX0 5 T.a_L_ask T.d_L_ask ["_law_net_here", "_law_word", "_law_value"] (sp_L_ask01 K T.c_Net) := by
  refine T.F_L_ask.okG sc_L_ask (fun vs H Q E h => ?_) (fun cdv A outer s H vs Q E hA hr h => ?_)
  · obtain ⟨_, _, _, _, rfl, _⟩ := h
    rfl
  · obtain ⟨v, x, wd, dt, rfl, hv, h⟩ := h
    have hs := hv.1
    refine ⟨_, (pss_cons (ps_set (i := 3) sc_L_ask.nd rfl (Or.inl rfl) (pe_lst pa_nil))
      (pss_cons (L2N.ps_try_as (i := 4) rfl rfl sc_L_ask.nd rfl rfl ⟨rfl, by decide, .inl T.gc_ServeError⟩ takesN0 (fun W pn xe tk _ => (pss_cons (ps_if (pt_cmpR (k_eqG (K := K) rfl hr.units) (pv 1) pe_str (nomark _)) (pss_one (ps_expr (pe_makeT T.M_Net (okN_Net___init__ T) (hr.mono (by decide)) rfl T.gc_Net T.b_Net___init__ .nil (fun σ => L2N.passAt tk σ) (pa_cons (pv 2) (pa_cons (pe_ix (k_ix (K := K) rfl) (pv 0) pe_int (fun _ _ => rfl)) (pa_cons (pe_ix (k_ix (K := K) rfl) (pv 0) pe_int (fun _ _ => rfl)) (pa_cons (pe_ix (k_ix (K := K) rfl) (pv 0) pe_int (fun _ _ => rfl)) (pa_cons (pe_ix (k_ix (K := K) rfl) (pv 0) pe_int (fun _ _ => rfl)) (pa_cons pe_non pa_nil))))))))) (pss_one (ps_expr (pe_methT (pv 0) T.C_Net T.m_Net_row (okN_Net_row T) (hr.mono (by decide)) T.b_Net_row .nil (fun σ => L2N.passAt tk σ) (pa_cons (pe_tup pa_nil) (pa_cons (pv 2) pa_nil))))))
      (pss_one (ps_expr (k_bm (K := K) rfl PySem.F.plainAttrs_list PySem.F.slot_list_append PySem.F.type_list_append mt_append (pv 3) (pa_cons (pe_tup (pa_cons pe_str (pa_cons pe_str pa_nil))) pa_nil))))))
      (fun a oe cls d pn hz hf => (pss_cons (ps_if (k_tru (K := K) rfl (pe_callB (k_isX (K := K) rfl List.mem_cons_self hz.zc hf) (by rfl) T.z_isinstance (by decide +kernel) (pa_cons (pv 4) (pa_cons (pe_glob (v := .ref T.c_InvalidNumber) (by rfl) T.gc_InvalidNumber rfl) pa_nil))) (by intro _; rfl)) (pss_one (ps_expr (k_bm (K := K) rfl PySem.F.plainAttrs_list PySem.F.slot_list_append PySem.F.type_list_append mt_append (pv 3) (pa_cons (pe_tup (pa_cons pe_str (pa_cons (pe_callB (k_reprG (K := K) rfl hA hr.units) (by rfl) T.z_repr (by decide +kernel) (pa_cons (pe_xfP T.xf_InvalidNumber T.nf_InvalidNumber List.mem_cons_self hz.zc hf (pv 4) rfl) pa_nil)) pa_nil))) pa_nil)))) pss_nil)
      (pss_cons (ps_if (k_tru (K := K) rfl (pe_callB (k_isX (K := K) rfl List.mem_cons_self hz.zc hf) (by rfl) T.z_isinstance (by decide +kernel) (pa_cons (pv 4) (pa_cons (pe_glob (v := .ref T.c_InvalidLetter) (by rfl) T.gc_InvalidLetter rfl) pa_nil))) (by intro _; rfl)) (pss_one (ps_expr (k_bm (K := K) rfl PySem.F.plainAttrs_list PySem.F.slot_list_append PySem.F.type_list_append mt_append (pv 3) (pa_cons (pe_tup (pa_cons pe_str (pa_cons (pe_callB (k_reprG (K := K) rfl hA hr.units) (by rfl) T.z_repr (by decide +kernel) (pa_cons (pe_xfP T.xf_InvalidLetter T.nf_InvalidLetter List.mem_cons_self hz.zc hf (pv 4) rfl) pa_nil)) pa_nil))) pa_nil)))) pss_nil)
      (pss_one (ps_if (PW.pt (pw_or (k_tru (K := K) rfl (pe_callB (k_isX (K := K) rfl List.mem_cons_self hz.zc hf) (by rfl) T.z_isinstance (by decide +kernel) (pa_cons (pv 4) (pa_cons (pe_tup (pa_cons (pe_glob (v := .ref T.c_NoHouse) (by rfl) T.gc_NoHouse rfl) (pa_cons (pe_glob (v := .ref T.c_NoRequest) (by rfl) T.gc_NoRequest rfl) (pa_cons (pe_glob (v := .ref T.c_NoRoom) (by rfl) T.gc_NoRoom rfl) (pa_cons (pe_glob (v := .ref T.c_NotAlone) (by rfl) T.gc_NotAlone rfl) (pa_cons (pe_glob (v := .ref T.c_NotHeld) (by rfl) T.gc_NotHeld rfl) (pa_cons (pe_glob (v := .ref T.c_TooLarge) (by rfl) T.gc_TooLarge rfl) pa_nil))))))) pa_nil))) (by intro _; rfl)) (pw_or1 (pt_not (k_tru (K := K) rfl (pe_callB (k_isX (K := K) rfl List.mem_cons_self hz.zc hf) (by rfl) T.z_isinstance (by decide +kernel) (pa_cons (pv 4) (pa_cons (pe_bltn (v := .ty "ValueError") (by rfl) T.z_ValueError (by decide +kernel) rfl) pa_nil))) (by intro _; rfl)))))) (pss_one (ps_expr (k_bm (K := K) rfl PySem.F.plainAttrs_list PySem.F.slot_list_append PySem.F.type_list_append mt_append (pv 3) (pa_cons (pe_tup (pa_cons pe_str (pa_cons pe_str pa_nil))) pa_nil)))) pss_nil))))))
      (pss_cons (ps_if (pt_cmpR (k_eqG (K := K) rfl hr.units) (pe_callB (k_lenS (K := K) rfl) (by rfl) T.z_len (by decide +kernel) (pa_cons (pv 3) pa_nil)) pe_int (nomark _)) (pss_one (ps_ret (pe_ix (k_ix (K := K) rfl) (pv 3) pe_int (fun _ _ => rfl)))) pss_nil)
      (pss_one (ps_ret (pe_tup (pa_cons pe_str (pa_cons pe_str pa_nil)))))))), ?_⟩
    refine go_start (σ' := [some v, some (.str wd), some x, none, none]) rfl ?_
    try dsimp only [cxOf, Cx.nox, Cx.wish]
    rcases h with ⟨rfl, ⟨a, v0, v1, v2, v3, v4, rfl, hN⟩, hp, q⟩ | ⟨rfl, ⟨p, nd, e, rfl, hN, hb⟩, q⟩
    · walk_at "GO"
      rename_i D H1 hD s1 e1
      intro x' dx hx hdx hne
      have s2 : Same H1 (upd (upd H1 dx (.own x')) x' (.ins T.c_Net dx [])) := (Same.new hdx).trans (Same.new (by rw [upd_ne (Ne.symm hne)]; exact hx))
      refine .inr ⟨x', x, v1, v2, v3, v4, .non, dt, rfl, ROdd.mono _ _ _ _ (s1.trans s2) hv, hp, fun d H3 hd s3' ed => ?_⟩
      have s3 := s2.trans s3'
      have e3 := s3 _ _ e1
      have s13 := s1.trans s3
      have hnD : D ≠ d := fun e => by rw [e, ed] at e3; cases e3
      refine ⟨true, exm_sub T.er_ServeError T.sub_InvalidNumber_ServeError, fun _ ea hea => ?_, fun h => nomatch h⟩
      walk_at "GO"
      refine w_isX ed T.ec_InvalidNumber T.er_InvalidNumber T.sub_InvalidNumber_InvalidNumber T.sub_InvalidNumber_InvalidNumber ?_
      walk_at "GO"
      refine w_xfV rfl ed rfl ?_
      refine ⟨x, dt, rfl, (ROdd.mono _ _ _ _ s13 hv).dp, hs.ok, hs.nod, hs.deep, hs.size, ?_⟩
      walk_at "GO"
      rename_i p4 H4 hp4 s4 e4
      refine w_append (s4 _ _ e3) (by decide) ?_
      have ed5 : (upd H4 D (.lst ([] ++ [V.ref p4]))) d = some (.xd [("number", x)]) := by rw [upd_ne (Ne.symm hnD)]; exact s4 _ _ ed
      have e5 : (upd H4 D (.lst ([] ++ [V.ref p4]))) D = some (.lst [V.ref p4]) := upd_same
      have e45 : (upd H4 D (.lst ([] ++ [V.ref p4]))) p4 = some (.tup [.str "InvalidNumber", .str dt.shown]) := by
        rw [upd_ne (fun z => by have := s4 _ _ e3; rw [← z, e4] at this; cases this)]; exact e4
      have s5 : Same H (upd H4 D (.lst ([] ++ [V.ref p4]))) := (s13.trans s4).mut hD
      generalize upd H4 D (.lst ([] ++ [V.ref p4])) = H5 at ed5 e5 e45 s5 ⊢
      walk_at "GO"
      refine w_isX ed5 T.ec_InvalidNumber T.er_InvalidLetter T.sub_InvalidNumber_InvalidNumber T.sub_InvalidNumber_InvalidLetter ?_
      walk_at "GO"
      rename_i tp H6 htp s6 e6
      refine w_isXT (s6 _ _ ed5) T.ec_InvalidNumber e6 (.cons (.own _) (.cons (.own _) (.cons (.own _) (.cons (.own _) (.cons (.own _) (.cons (.own _) .nil)))))) (kit_cons (kit_sub T.er_NoHouse T.sub_InvalidNumber_InvalidNumber T.sub_InvalidNumber_NoHouse) (kit_cons (kit_sub T.er_NoRequest T.sub_InvalidNumber_InvalidNumber T.sub_InvalidNumber_NoRequest) (kit_cons (kit_sub T.er_NoRoom T.sub_InvalidNumber_InvalidNumber T.sub_InvalidNumber_NoRoom) (kit_cons (kit_sub T.er_NotAlone T.sub_InvalidNumber_InvalidNumber T.sub_InvalidNumber_NotAlone) (kit_cons (kit_sub T.er_NotHeld T.sub_InvalidNumber_InvalidNumber T.sub_InvalidNumber_NotHeld) (kit_cons (kit_sub T.er_TooLarge T.sub_InvalidNumber_InvalidNumber T.sub_InvalidNumber_TooLarge) kit_nil)))))) ?_
      walk_at "GO"
      refine w_isXV (s6 _ _ ed5) T.ec_InvalidNumber T.sv_InvalidNumber ?_
      have e7 := s6 _ _ e5
      walk_at "GO"
      rw [decide_eq_true (show (((([V.ref p4] : List V).length : Nat)) : Int) = 1 from rfl)]
      walk_at "GO"
      try refine w_ix (Sq.lst e7) (atI_nat (j := 0) rfl) ?_
      try walk_at "GO"
      exact q p4 H6 (s5.trans s6) (Sq.tup (s6 _ _ e45))
    · walk_at "GO"
      rename_i D H1 hD s1 e1
      obtain ⟨dxn, u1, u2, u3, u4, h0, _⟩ := id (hN.mono s1)
      unfold netF at h0
      refine w_methAt h0 rfl ?_
      walk_at "GO"
      rename_i pe H2 hpe s2 e2
      refine .inr ⟨p, nd, e, .ref pe, x, dt, rfl, hN.mono (s1.trans s2), ROdd.mono _ _ _ _ (s1.trans s2) hv, hb, fun d H3 hd s3' ed => ?_⟩
      have s3 := s2.trans s3'
      have e3 := s3 _ _ e1
      have s13 := s1.trans s3
      have hnD : D ≠ d := fun e => by rw [e, ed] at e3; cases e3
      refine ⟨true, exm_sub T.er_ServeError T.sub_InvalidLetter_ServeError, fun _ ea hea => ?_, fun h => nomatch h⟩
      walk_at "GO"
      refine w_isX ed T.ec_InvalidLetter T.er_InvalidNumber T.sub_InvalidLetter_InvalidLetter T.sub_InvalidLetter_InvalidNumber ?_
      walk_at "GO"
      refine w_isX ed T.ec_InvalidLetter T.er_InvalidLetter T.sub_InvalidLetter_InvalidLetter T.sub_InvalidLetter_InvalidLetter ?_
      walk_at "GO"
      refine w_xfV rfl ed rfl ?_
      refine ⟨x, dt, rfl, (ROdd.mono _ _ _ _ s13 hv).dp, hs.ok, hs.nod, hs.deep, hs.size, ?_⟩
      walk_at "GO"
      rename_i p4 H4 hp4 s4 e4
      refine w_append (s4 _ _ e3) (by decide) ?_
      have ed5 : (upd H4 D (.lst ([] ++ [V.ref p4]))) d = some (.xd [("letter", x)]) := by rw [upd_ne (Ne.symm hnD)]; exact s4 _ _ ed
      have e5 : (upd H4 D (.lst ([] ++ [V.ref p4]))) D = some (.lst [V.ref p4]) := upd_same
      have e45 : (upd H4 D (.lst ([] ++ [V.ref p4]))) p4 = some (.tup [.str "InvalidLetter", .str dt.shown]) := by
        rw [upd_ne (fun z => by have := s4 _ _ e3; rw [← z, e4] at this; cases this)]; exact e4
      have s5 : Same H (upd H4 D (.lst ([] ++ [V.ref p4]))) := (s13.trans s4).mut hD
      generalize upd H4 D (.lst ([] ++ [V.ref p4])) = H5 at ed5 e5 e45 s5 ⊢
      walk_at "GO"
      rename_i tp H6 htp s6 e6
      refine w_isXT (s6 _ _ ed5) T.ec_InvalidLetter e6 (.cons (.own _) (.cons (.own _) (.cons (.own _) (.cons (.own _) (.cons (.own _) (.cons (.own _) .nil)))))) (kit_cons (kit_sub T.er_NoHouse T.sub_InvalidLetter_InvalidLetter T.sub_InvalidLetter_NoHouse) (kit_cons (kit_sub T.er_NoRequest T.sub_InvalidLetter_InvalidLetter T.sub_InvalidLetter_NoRequest) (kit_cons (kit_sub T.er_NoRoom T.sub_InvalidLetter_InvalidLetter T.sub_InvalidLetter_NoRoom) (kit_cons (kit_sub T.er_NotAlone T.sub_InvalidLetter_InvalidLetter T.sub_InvalidLetter_NotAlone) (kit_cons (kit_sub T.er_NotHeld T.sub_InvalidLetter_InvalidLetter T.sub_InvalidLetter_NotHeld) (kit_cons (kit_sub T.er_TooLarge T.sub_InvalidLetter_InvalidLetter T.sub_InvalidLetter_TooLarge) kit_nil)))))) ?_
      walk_at "GO"
      refine w_isXV (s6 _ _ ed5) T.ec_InvalidLetter T.sv_InvalidLetter ?_
      have e7 := s6 _ _ e5
      walk_at "GO"
      rw [decide_eq_true (show (((([V.ref p4] : List V).length : Nat)) : Int) = 1 from rfl)]
      walk_at "GO"
      try refine w_ix (Sq.lst e7) (atI_nat (j := 0) rfl) ?_
      try walk_at "GO"
      exact q p4 H6 (s5.trans s6) (Sq.tup (s6 _ _ e45))

/-! ### the parts of a net, as tuples or lists -/
mutual
theorem Dp.mono {K : PySem.W.Frag} {H H' : Hp} (s : Same H H') : ∀ (d : PyData) (v : V), Dp K H v d → Dp K H' v d
  | .none, _, h => by cases h; exact .non
  | .bool b, _, h => by cases h; exact .bl _
  | .int i, _, h => by cases h; exact .int _
  | .str x, _, h => by cases h; exact .str _
  | .list ds, _, h => by
    cases h with
    | lst h1 h2 => exact .lst (s.sq (b := true) h1) (DpAll.mono s ds _ h2)
  | .tuple ds, _, h => by
    cases h with
    | tup h1 h2 => exact .tup (s.sq (b := false) h1) (DpAll.mono s ds _ h2)
  | .dict _, _, h => by cases h
theorem DpAll.mono {K : PySem.W.Frag} {H H' : Hp} (s : Same H H') : ∀ (ds : List PyData) (vs : List V), DpAll K H vs ds → DpAll K H' vs ds
  | [], _, h => by cases h; exact .nil
  | d :: ds, _, h => by
    cases h with
    | cons h1 h2 => exact .cons (Dp.mono s d _ h1) (DpAll.mono s ds _ h2)
end
def wr (b : Bool) (ds : List PyData) : PyData := if b then .list ds else .tuple ds
def vecD (b : Bool) (ns : List Int) : PyData := wr b (ns.map PyData.int)
def matD (b : Bool) (M : Mat) : PyData := wr b (M.map (vecD b))
def layD (b : Bool) (Ls : List (List Mat)) : PyData := wr b (Ls.map fun L => .tuple (L.map (matD b)))
def partsD (b : Bool) (nd : NetD) : PyData := .list [matD b nd.emb, vecD b nd.sh, layD b nd.lay, matD b nd.out]
theorem sha_wr {b : Bool} {ds : List PyData} {n w : Nat} (h : ShA ds n w) : ShW (wr b ds) (n + 1) w := by
  cases b
  · exact h.tup
  · exact h.lst
theorem sha_up {ds : List PyData} {n w n' w' : Nat} (h : ShA ds n w) (hn : n ≤ n') (hw : w ≤ w') : ShA ds n' w' := ⟨h.ok, h.nod, Nat.le_trans h.deep hn, h.short, Nat.le_trans h.wt hw⟩
theorem sh_vec {b : Bool} {p : Int} {ns : List Int} (h : Sml p ns) (hp : p ≤ 97) (hl : ns.length ≤ 4) : ShW (vecD b ns) 1 4 := by
  refine sha_wr (sha_up (ShA.map (f := PyData.int) (ds := ns) (w := 0) (n := 0) fun x hx => ShW.int ?_) (Nat.le_refl _) (by omega))
  have := h x hx
  omega
theorem sh_mat {b : Bool} {p : Int} {w m : Nat} {M : Mat} (h : MatOk p w M) (hp : p ≤ 97) (hw : w ≤ 4) (hl : M.length ≤ m) : ShW (matD b M) 2 (5 * m) := by
  refine sha_wr (sha_up (ShA.map (f := vecD b) (ds := M) (w := 4) (n := 1) fun r hr => ?_) (Nat.le_refl _) (by omega))
  obtain ⟨h1, h2⟩ := h r hr
  exact sh_vec h2 hp (by omega)
theorem sh_parts {b : Bool} {nd : NetD} {w : Nat} (ok : NetOk nd w) : ShW (partsD b nd) 5 600 := by
  have h97 := ok.p97
  have hw := ok.w4
  have h1 : ShW (matD b nd.emb) 4 60 := (sh_mat ok.emb h97 hw ok.e12).up (by omega) (by omega)
  have h2 : ShW (vecD b nd.sh) 4 4 := (sh_vec ok.sh.2 h97 (by have := ok.sh.1; omega)).up (by omega) (by omega)
  have h4 : ShW (matD b nd.out) 4 60 := (sh_mat ok.out h97 hw ok.o12).up (by omega) (by omega)
  have h3 : ShW (layD b nd.lay) 4 318 := by
    refine sha_wr (sha_up (ShA.map (f := fun L => PyData.tuple (L.map (matD b))) (ds := nd.lay) (w := 105) (n := 3) fun L hL => ?_) (Nat.le_refl _) (by have := ok.l3; omega))
    obtain ⟨h5, hM⟩ := ok.lay L hL
    refine ShA.tup (sha_up (ShA.map (f := matD b) (ds := L) (w := 20) (n := 2) fun M hm => ?_) (Nat.le_refl _) (by rw [h5]; omega))
    obtain ⟨h6, h7⟩ := hM M hm
    exact (sh_mat (m := 4) h7 h97 hw (by omega)).up (by omega) (by omega)
  exact (sha_up (ShA.cons h1 (ShA.cons h2 (ShA.cons h3 (ShA.cons h4 (ShA.nil (w := 0)))))) (Nat.le_refl _) (by omega)).lst
abbrev RMatB (b : Bool) (K : PySem.W.Frag) : Rep Mat := RSeq b K (RVec b K)
abbrev RLayB (b : Bool) (K : PySem.W.Frag) : Rep (List (List Mat)) := RSeq b K (RSeq false K (RMatB b K))
theorem dp_vecB {b : Bool} {K : PySem.W.Frag} {H : Hp} {v : V} {ns : List Int} (h : RVec b K H v ns) : Dp K H v (vecD b ns) := by
  obtain ⟨a, rfl, hs⟩ := h
  exact dp_ints hs
theorem dp_seqB {α : Type} {b : Bool} {K : PySem.W.Frag} {R : Rep α} {f : α → PyData} {H : Hp} (h : ∀ v d, R H v d → Dp K H v (f d)) {v : V} {ds : List α} (r : RSeq b K R H v ds) : Dp K H v (wr b (ds.map f)) := by
  obtain ⟨a, vs, rfl, hs, hl, hr⟩ := r
  cases b
  · exact .tup hs (dpAll_map h hl hr)
  · exact .lst hs (dpAll_map h hl hr)
theorem dp_parts {b : Bool} {K : PySem.W.Frag} {H : Hp} {P : Addr} {v1 v2 v3 v4 : V} {nd : NetD} (hP : H P = some (.lst [v1, v2, v3, v4])) (h1 : RMatB b K H v1 nd.emb) (h2 : RVec b K H v2 nd.sh) (h3 : RLayB b K H v3 nd.lay) (h4 : RMatB b K H v4 nd.out) : Dp K H (.ref P) (partsD b nd) :=
  .lst (Sq.lst hP) (.cons (dp_seqB (fun _ _ h => dp_vecB h) h1) (.cons (dp_vecB h2) (.cons (dp_seqB (fun _ _ h => dp_seqB (b := false) (fun _ _ h => dp_seqB (fun _ _ h => dp_vecB h) h) h) h3) (.cons (dp_seqB (fun _ _ h => dp_vecB h) h4) .nil))))
theorem RMatB.x {b : Bool} {K : PySem.W.Frag} {H : Hp} {v : V} {M : Mat} (h : RMatB b K H v M) : RMatX K H v M := by
  obtain ⟨a, vs, e, hs, hl, hr⟩ := h
  exact ⟨b, a, vs, e, hs, hl, fun i y x h1 h2 => ⟨b, hr i y x h1 h2⟩⟩
theorem RLayB.x {b : Bool} {K : PySem.W.Frag} {H : Hp} {v : V} {L : List (List Mat)} (h : RLayB b K H v L) : RLayX K H v L := by
  obtain ⟨a, vs, e, h1, h2, h3⟩ := h
  refine ⟨b, a, vs, e, h1, h2, fun i y x e1 e2 => ?_⟩
  obtain ⟨a', vs', e', h1', h2', h3'⟩ := h3 i y x e1 e2
  exact ⟨false, a', vs', e', h1', h2', fun i y x e1 e2 => RMatB.x (h3' i y x e1 e2)⟩
theorem told_ofB {b : Bool} {K : PySem.W.Frag} {C : Addr} {H1 : Hp} {nd : NetD} {w : Nat} (ok : NetOk nd w) (hpr : nd.p ∈ primes) {v1 v2 v3 v4 e : V} {x dx : Addr} (hx : H1 x = none) (hdx : H1 dx = none) {Q : VK} {E : XK}
    (r1 : RMatB b K H1 v1 nd.emb) (r2 : RVec b K H1 v2 nd.sh) (r3 : RLayB b K H1 v3 nd.lay) (r4 : RMatB b K H1 v4 nd.out) (q : ∀ H', Same H1 H' → IsNet K C H' x nd e → Q .non H') :
    sp_Net___init__ K C [.ref x, .int nd.p, v1, v2, v3, v4, e] (upd (upd H1 dx (.own x)) x (.ins C dx [])) Q E := by
  have s := make_same (o := .own x) (o' := .ins C dx []) hx hdx
  have := ok.e12
  have := ok.o12
  have := ok.l3
  refine ⟨x, dx, nd, v1, v2, v3, v4, e, rfl, upd_same, hpr, RMatX.mono _ _ _ _ s r1.x, RVecX.mono _ _ _ _ s ⟨b, r2⟩, RLayX.mono _ _ _ _ s r3.x, RMatX.mono _ _ _ _ s r4.x, by omega, by omega, by omega, fun L hL => ?_, fun H' s' r => q H' ((s.trans s').trans (hide_same _ _)) r⟩
  obtain ⟨h5, hm⟩ := ok.lay L hL
  have := ok.w4
  exact ⟨by omega, fun M hM => by rw [(hm M hM).1]; omega⟩
/-! tuples as nested data -/
theorem RVec.up1 {K : PySem.W.Frag} {H : Hp} {v : V} {ns : List Int} (h : RVec false K H v ns) : RUp K 1 H v ns := by
  obtain ⟨a, e, hs⟩ := h
  refine ⟨a, _, e, hs, List.length_map .., fun i y x h1 h2 => ?_⟩
  have h2 : ns[i]? = some x := h2
  rw [List.getElem?_map, h2] at h1
  exact (Option.some.inj h1).symm
theorem RSeq.upS {K : PySem.W.Frag} {n : Nat} {R : Rep (NestD n)} {H : Hp} (h : ∀ v d, R H v d → RUp K n H v d) {v : V} {ds : List (NestD n)} (r : RSeq false K R H v ds) : RUp K (n + 1) H v ds := by
  obtain ⟨a, vs, e, hs, hl, hr⟩ := r
  exact ⟨a, vs, e, hs, hl, fun i y x h1 h2 => h y x (hr i y x h1 h2)⟩
theorem RMat.up2 {K : PySem.W.Frag} {H : Hp} {v : V} {M : Mat} (h : RMat K H v M) : RUp K 2 H v M := RSeq.upS (n := 1) (fun _ _ h => RVec.up1 h) h
theorem RLay.up4 {K : PySem.W.Frag} {H : Hp} {v : V} {L : List (List Mat)} (h : RSeq false K (RSeq false K (RMat K)) H v L) : RUp K 4 H v L := RSeq.upS (n := 3) (fun _ _ h => RSeq.upS (n := 2) (fun _ _ h => RMat.up2 h) h) h
theorem few_vec {ns : List Int} (h : ns.length ≤ 1000) : Few 1 ns := ⟨h, fun _ _ => trivial⟩
theorem few_mat {M : Mat} (h : M.length ≤ 1000) (h2 : ∀ r ∈ M, r.length ≤ 1000) : Few 2 M := ⟨h, fun r hr => few_vec (h2 r hr)⟩
theorem few_lay {Ls : List (List Mat)} (h : Ls.length ≤ 1000) (h2 : ∀ L ∈ Ls, L.length ≤ 1000 ∧ ∀ M ∈ L, M.length ≤ 1000 ∧ ∀ r ∈ M, r.length ≤ 1000) : Few 4 Ls := ⟨h, fun L hL => ⟨(h2 L hL).1, fun M hM => few_mat ((h2 L hL).2 M hM).1 ((h2 L hL).2 M hM).2⟩⟩
theorem ints_of {ys : List V} {ns : List Int} (hl : ys.length = ns.length) (hr : ∀ (i : Nat) y (d : Int), ys[i]? = some y → ns[i]? = some d → y = .int d) : ys = ns.map V.int := by
  refine List.ext_getElem? fun i => ?_
  rw [List.getElem?_map]
  cases e : ns[i]? with
  | none =>
    rw [List.getElem?_eq_none_iff] at e
    exact List.getElem?_eq_none_iff.mpr (by omega)
  | some d =>
    have hi := (List.getElem?_eq_some_iff.mp e).1
    have h1 : ys[i]? = some (ys[i]'(by omega)) := List.getElem?_eq_getElem (by omega)
    rw [h1, hr i _ d h1 e]
    rfl
theorem RDn.vec {K : PySem.W.Frag} {H0 H : Hp} {v : V} {ns : List Int} (h : RDn H0 1 H v ns) : RVec true K H v ns := by
  obtain ⟨b, ys, e, _, h1, hl, hr⟩ := h
  refine ⟨b, e, Sq.lst ?_⟩
  rw [h1, ints_of hl hr]
theorem RDn.mat {K : PySem.W.Frag} {H0 H : Hp} {v : V} {M : Mat} (h : RDn H0 2 H v M) : RMatB true K H v M := by
  obtain ⟨b, ys, e, _, h1, hl, hr⟩ := h
  exact ⟨b, ys, e, Sq.lst h1, hl, fun i y d a b => RDn.vec (hr i y d a b)⟩
/-- layers: a new list of tuples of nested lists -/
def LayL (K : PySem.W.Frag) (H0 H : Hp) (v : V) (Ls : List (List Mat)) : Prop := ∃ aL ts, v = .ref aL ∧ H0 aL = none ∧ H aL = some (.lst ts) ∧ ts.length = Ls.length ∧ ∀ (i : Nat) y L, ts[i]? = some y → Ls[i]? = some L → RSeq false K (RDn H0 2) H y L
theorem LayL.mono {K : PySem.W.Frag} {H0 H H' : Hp} {v : V} {Ls : List (List Mat)} (s : Same H H') (h : LayL K H0 H v Ls) : LayL K H0 H' v Ls := by
  obtain ⟨aL, ts, e, h0, h1, hl, hr⟩ := h
  exact ⟨aL, ts, e, h0, s _ _ h1, hl, fun i y L a b => RSeq.mono RDn.mono _ _ _ _ s (hr i y L a b)⟩
theorem LayL.b {K : PySem.W.Frag} {H0 H : Hp} {v : V} {Ls : List (List Mat)} (h : LayL K H0 H v Ls) : RLayB true K H v Ls := by
  obtain ⟨aL, ts, e, h0, h1, hl, hr⟩ := h
  refine ⟨aL, ts, e, Sq.lst h1, hl, fun i y L a b => ?_⟩
  obtain ⟨t, ms, e, h2, h3, h4⟩ := hr i y L a b
  exact ⟨t, ms, e, h2, h3, fun i y M a b => RDn.mat (h4 i y M a b)⟩
/-! only new rows of numbers change -/
def NewInts (H0 H : Hp) (c : Addr) : Prop := H0 c = none ∧ ∃ (n : Int) (r : List Int), H c = some (.lst ((n :: r).map V.int)) ∧ r.length ≤ 9
structure PFr (H0 H6 : Hp) (N : Nat) (H' : Hp) : Prop where
  fr : ∀ c o, ¬ NewInts H0 H6 c → H6 c = some o → H' c = some o
  nums : ∀ c, NewInts H0 H6 c → IntL N H' c
theorem PFr.refl {H0 H6 : Hp} : PFr H0 H6 10 H6 := ⟨fun _ _ _ e => e, fun c ⟨_, n, r, e, hl⟩ => ⟨n :: r, e, by show r.length + 1 ≤ 10; omega⟩⟩
theorem PFr.step {H0 H6 H1 H2 : Hp} {N M : Nat} {as : List Addr} (f : PFr H0 H6 N H1) (g : ∀ c o, c ∉ as → H1 c = some o → H2 c = some o) (i : ∀ a ∈ as, IntL M H2 a) (h : ∀ a ∈ as, NewInts H0 H6 a) (hm : N ≤ M) : PFr H0 H6 M H2 :=
  ⟨fun c o hc e => g c o (fun hm => hc (h c hm)) (f.fr c o hc e), fun c hc => by
    by_cases e : c ∈ as
    · exact i c e
    · obtain ⟨ns, e1, hl⟩ := f.nums c hc
      exact ⟨ns, g c _ e e1, by omega⟩⟩
theorem PFr.over {H0 H6 H' : Hp} {N : Nat} (f : PFr H0 H6 N H') (s : Same H0 H6) : Same H0 H' := fun c o e => f.fr c o (fun ⟨h, _⟩ => by rw [e] at h; cases h) (s c o e)
theorem not_newInts {H0 H6 : Hp} {c : Addr} {o : HO} (e : H6 c = some o) (h : ∀ (n : Int) r, o ≠ .lst (.int n :: r)) : ¬ NewInts H0 H6 c := fun ⟨_, n, r, e2, _⟩ => by
  rw [e] at e2
  exact h n _ (Option.some.inj e2)
def noL (H : Hp) : Hp := fun c => match H c with
  | some (.lst _) => none
  | o => o
theorem noL_of {H : Hp} {c : Addr} {o : HO} (e : H c = some o) (h : ∀ xs, o ≠ .lst xs) : noL H c = some o := by
  unfold noL
  rw [e]
  cases o <;> first | rfl | exact absurd rfl (h _)
theorem noL_back {H : Hp} {c : Addr} {o : HO} (e : noL H c = some o) : H c = some o ∧ ∀ xs, o ≠ .lst xs := by
  unfold noL at e
  split at e
  · cases e
  · next h => exact ⟨e, fun xs he => h xs (he ▸ e)⟩
theorem sq_noL {K : PySem.W.Frag} {H : Hp} {a : Addr} {xs : List V} (h : Sq false K H a xs) : Sq false K (noL H) a xs := by
  rcases h with (h | ⟨o, h⟩) | h
  · exact .inl (.inl (noL_of h fun _ e => by cases e))
  · exact .inl (.inr ⟨o, noL_of h fun _ e => by cases e⟩)
  · exact .inr h
theorem vec_noL {K : PySem.W.Frag} {H : Hp} {v : V} {ns : List Int} (h : RVec false K H v ns) : RVec false K (noL H) v ns := by
  obtain ⟨a, e, hs⟩ := h
  exact ⟨a, e, sq_noL hs⟩
theorem seq_noL {α : Type} {K : PySem.W.Frag} {R : Rep α} {H : Hp} (h : ∀ v d, R H v d → R (noL H) v d) {v : V} {ds : List α} (r : RSeq false K R H v ds) : RSeq false K R (noL H) v ds := by
  obtain ⟨a, vs, e, hs, hl, hr⟩ := r
  exact ⟨a, vs, e, sq_noL hs, hl, fun i y x a b => h y x (hr i y x a b)⟩
theorem mat_noL {K : PySem.W.Frag} {H : Hp} {v : V} {M : Mat} (h : RMat K H v M) : RMat K (noL H) v M := seq_noL (fun _ _ h => vec_noL h) h
theorem net_noL {K : PySem.W.Frag} {C : Addr} {H : Hp} {p : Addr} {nd : NetD} {e : V} (h : IsNet K C H p nd e) : IsNet K C (noL H) p nd e := by
  obtain ⟨dx, v1, v2, v3, v4, h0, h1, h2, h3, h4⟩ := h
  exact ⟨dx, v1, v2, v3, v4, noL_of h0 (fun _ e => by cases e), mat_noL h1, vec_noL h2, seq_noL (fun _ _ h => seq_noL (fun _ _ h => mat_noL h) h) h3, mat_noL h4⟩
theorem PFr.lists {H0 H6 H' : Hp} {N : Nat} (f : PFr H0 H6 N H') : Same (noL H6) H' := fun c o e => by
  obtain ⟨e1, h⟩ := noL_back e
  exact f.fr c o (not_newInts e1 fun n r he => h _ he) e1
/-- the rows of a nested list -/
theorem RDn.rows {H0 H6 : Hp} {v : V} {M : Mat} {p : Int} {w : Nat} (h : RDn H0 2 H6 v M) (hM : MatOk p w M) (hw : 1 ≤ w) (hw4 : w ≤ 4) : ∃ (b : Addr) (as : List Addr), v = .ref b ∧ H6 b = some (.lst (as.map V.ref)) ∧ as.length = M.length ∧ (∀ a ∈ as, NewInts H0 H6 a) ∧ ¬ NewInts H0 H6 b := by
  obtain ⟨b, ys, e, _, h1, hl, hr⟩ := h
  have hrow : ∀ (i : Nat) y, ys[i]? = some y → ∃ a, y = .ref a ∧ NewInts H0 H6 a := fun i y hy => by
    have hi := (List.getElem?_eq_some_iff.mp hy).1
    have hl : ys.length = List.length (α := List Int) M := hl
    have hd : M[i]? = some (M[i]'(by omega)) := List.getElem?_eq_getElem (by omega)
    obtain ⟨a, zs, e2, hn, h3, hzl, hz⟩ := hr i y _ hy hd
    obtain ⟨h5, _⟩ := hM _ (List.mem_of_getElem? hd)
    have e3 := ints_of hzl hz
    generalize M[i]'(by omega) = r at e3 h5
    refine ⟨a, e2, hn, ?_⟩
    cases r with
    | nil => exact absurd h5 (by show ¬ (0 : Nat) = w; omega)
    | cons n r =>
      have h5 : r.length + 1 = w := h5
      exact ⟨n, r, by rw [h3, e3], by omega⟩
  refine ⟨b, ys.map fun y => match y with | .ref a => a | _ => 0, e, ?_, by rw [List.length_map]; exact hl, fun a ha => ?_, ?_⟩
  · rw [h1]
    congr 2
    rw [List.map_map]
    refine List.ext_getElem? fun i => ?_
    rw [List.getElem?_map]
    cases ey : ys[i]? with
    | none => rfl
    | some y =>
      obtain ⟨a, rfl, _⟩ := hrow i y ey
      rfl
  · obtain ⟨y, hy, rfl⟩ := List.mem_map.mp ha
    obtain ⟨i, hi⟩ := List.getElem?_of_mem hy
    obtain ⟨a, rfl, h⟩ := hrow i y hi
    exact h
  · refine not_newInts h1 fun n r he => ?_
    injection he with he
    obtain ⟨a, e, _⟩ := hrow 0 (.int n) (by rw [he]; rfl)
    cases e

/-! ### the law -/
theorem prime_in2 {p : Int} (h : p ∈ primes ++ [2, 3, 5, 97, 2]) : p ∈ primes := by
  rcases List.mem_append.mp h with h | h
  · exact h
  · simp only [List.mem_cons, List.not_mem_nil, or_false] at h
    rcases h with h | h | h | h | h <;> subst h <;> decide
theorem row_g {K : PySem.W.Frag} : ∃ g, Dat K (RRow K) g 4 := ⟨_, Dat.pair ((Dat.vec.pair Dat.vec).seq) (Dat.vec.up (by omega))⟩
theorem w_neRows {K : PySem.W.Frag} {H : Hp} {Q : VK} {x y : V} {rows : List RowD} (h1 : RSeq true K (RRow K) H x rows) (h2 : RSeq true K (RRow K) H y rows) (q : Q (.bl false) H) : rNeG K x y H Q := by
  obtain ⟨g, hg⟩ := row_g (K := K)
  have hl : (PyData.list (rows.map g)).canLay0 = true := by
    simp only [PyData.canLay0]
    exact canLayAll_map hg.lay rows
  have hs : SeqAt.shaped (.list (rows.map g)) = true := by
    have hd : (PyData.list (rows.map g)).depth ≤ 64 := by
      simp only [PyData.depth]
      have := depthAll_map hg.deep rows
      omega
    unfold SeqAt.shaped
    rw [hl, decide_eq_true hd]
    rfl
  exact w_neD (dp_seqB (b := true) (hg.dp H) h1) (dp_seqB (b := true) (hg.dp H) h2) hs hs (by rw [show wr true (rows.map g) = .list (rows.map g) from rfl, eqv_refl _ hl]; exact q)
theorem sm_strs {K : PySem.W.Frag} {H : Hp} {n : Nat} {p q : Addr} {s t : Str} (h1 : SqT K H p [.str s, .str t]) (h2 : H q = some (.tup [.str s, .str t])) : Sm K H (n + 2) (.ref p) (.ref q) :=
  .inr ⟨p, q, false, _, _, rfl, rfl, h1, Sq.tup h2, rfl, by show 2 ≤ 100000; omega, fun i x y e1 e2 => by
    match i, e1, e2 with
    | 0, e1, e2 => cases e1; cases e2; exact .inl ⟨rfl, .inr (.inr (.inr ⟨_, rfl⟩))⟩
    | 1, e1, e2 => cases e1; cases e2; exact .inl ⟨rfl, .inr (.inr (.inr ⟨_, rfl⟩))⟩
    | i + 2, e1, _ => simp at e1⟩
theorem rgV_ints {n : Int} (h : 0 ≤ n) : rgV 0 n = ((List.range n.toNat).map fun i => ((i : Nat) : Int)).map V.int := by
  unfold rgV
  rw [Int.sub_zero, List.map_map]
  refine List.map_congr_left fun i _ => ?_
  show V.int (0 + (i : Nat)) = V.int ((i : Nat) : Int)
  rw [Int.zero_add]
theorem bad_letter {L : Nat} {d : PyData} (h : ∀ i, d = .int i → i ∉ (List.range ((L : Nat) : Int).toNat).map fun i => ((i : Nat) : Int)) : inB 0 ((L : Int) - 1) d = false := by
  cases e : inB 0 ((L : Int) - 1) d with
  | false => rfl
  | true =>
    cases d with
    | int i =>
      have h1 : 0 ≤ i ∧ i ≤ (L : Int) - 1 := of_decide_eq_true e
      exact absurd (List.mem_map.mpr ⟨i.toNat, List.mem_range.mpr (by omega), by omega⟩) (h i rfl)
    | _ => cases e
def sp_law (K : PySem.W.Frag) : Sp := fun vs H Q _ => ∃ (a : Addr) (ns : List Int), vs = [.ref a] ∧ SqL K H a (ns.map V.int) ∧ ns.length ≤ 63 ∧ ∀ H', Q (.bl true) H'
theorem ok_law (T : Txt K mg) : FnG P w K mg base CX0 7 T.a_law T.d_law ["_law_script"] (sp_law K) := by
  refine T.F_law.okG sc_law (fun vs H Q E h => ?_) (fun cdv A outer s H vs Q E hA hr h => ?_)
  · obtain ⟨_, _, rfl, _⟩ := h
    rfl
  · obtain ⟨a, sc, rfl, hS0, hlen, k⟩ := h
    have hS : Sq true K H a (sc.map V.int) := hS0
    have cN := T.C_Net
    refine ⟨_, (pss_cons (ps_for PassesOwn.never rfl (pi_range1 rfl T.z_range (pa_cons (pe_callB (cr_min2 rfl) (by rfl) T.z_min (by decide +kernel) (pa_cons (pe_callB (k_lenS (K := K) rfl) (by rfl) T.z_len (by decide +kernel) (pa_cons (pv 0) pa_nil)) (pa_cons pe_int pa_nil))) pa_nil)) (pg_name (i := 1) sc_law.nd rfl (Or.inl rfl))
      (pss_cons (ps_set (i := 2) sc_law.nd rfl (Or.inl rfl) (pe_call (ok_L_numbers T) (hr.mono (by decide)) (by rfl) T.g_L_numbers T.F_L_numbers.kp T.b_L_numbers .nil pass0 (pa_cons (pe_ix (k_ix (K := K) rfl) (pv 0) (pv 1) (fun _ _ => rfl)) (pa_cons (pv 1) (pa_cons pe_int pa_nil)))))
      (pss_cons (ps_set (i := 3) sc_law.nd rfl (Or.inl rfl) (pe_lst (pa_cons pe_int (pa_cons pe_int (pa_cons pe_int (pa_cons pe_int (pa_cons pe_int (pa_cons pe_int (pa_cons pe_int (pa_cons pe_int (pa_cons pe_int (pa_cons pe_int (pa_cons pe_int (pa_cons pe_int (pa_cons pe_int (pa_cons pe_int (pa_cons pe_int (pa_cons pe_int (pa_cons pe_int (pa_cons pe_int (pa_cons pe_int (pa_cons pe_int (pa_cons pe_int (pa_cons pe_int (pa_cons pe_int (pa_cons pe_int (pa_cons pe_int pa_nil)))))))))))))))))))))))))))
      (pss_cons (ps_set (i := 4) sc_law.nd rfl (Or.inl rfl) (pe_ix (k_ix (K := K) rfl) (pe_op (k_addG (K := K) rfl) (pv 3) (pe_lst (pa_cons pe_int (pa_cons pe_int (pa_cons pe_int (pa_cons pe_int (pa_cons pe_int pa_nil))))))) (pe_op op_mod (pe_callTy cr_int1 (by rfl) T.z_int (by decide +kernel) (pa_cons (pe_ix (k_ix (K := K) rfl) (pv 2) pe_int (fun _ _ => rfl)) pa_nil)) pe_int) (fun _ _ => rfl)))
      (pss_cons (ps_set (i := 5) sc_law.nd rfl (Or.inl rfl) (pe_ix (k_ix (K := K) rfl) (pe_lst (pa_cons pe_int (pa_cons pe_int (pa_cons pe_int (pa_cons pe_int (pa_cons pe_int (pa_cons pe_int (pa_cons pe_int (pa_cons (pe_op (k_addG (K := K) rfl) pe_int (pe_op op_mod (pe_callTy cr_int1 (by rfl) T.z_int (by decide +kernel) (pa_cons (pe_ix (k_ix (K := K) rfl) (pv 2) pe_int (fun _ _ => rfl)) pa_nil)) pe_int)) pa_nil))))))))) (pe_op op_mod (pe_callTy cr_int1 (by rfl) T.z_int (by decide +kernel) (pa_cons (pe_op op_fdiv (pe_ix (k_ix (K := K) rfl) (pv 2) pe_int (fun _ _ => rfl)) pe_int) pa_nil)) pe_int) (fun _ _ => rfl)))
      (pss_cons (ps_set (i := 6) sc_law.nd rfl (Or.inl rfl) (pe_op (k_addG (K := K) rfl) pe_int (pe_op op_mod (pe_callTy cr_int1 (by rfl) T.z_int (by decide +kernel) (pa_cons (pe_ix (k_ix (K := K) rfl) (pv 2) pe_int (fun _ _ => rfl)) pa_nil)) pe_int)))
      (pss_cons (ps_set (i := 7) sc_law.nd rfl (Or.inl rfl) (pe_ix (k_ix (K := K) rfl) (pe_lst (pa_cons pe_int (pa_cons pe_int (pa_cons pe_int (pa_cons pe_int (pa_cons pe_int (pa_cons pe_int pa_nil))))))) (pe_op op_mod (pe_callTy cr_int1 (by rfl) T.z_int (by decide +kernel) (pa_cons (pe_ix (k_ix (K := K) rfl) (pv 2) pe_int (fun _ _ => rfl)) pa_nil)) pe_int) (fun _ _ => rfl)))
      (pss_cons (ps_set (i := 8) sc_law.nd rfl (Or.inl rfl) (pe_call (ok_L_net T) (hr.mono (by decide)) (by rfl) T.g_L_net T.F_L_net.kp T.b_L_net .nil pass0 (pa_cons (pe_slice (k_slG (K := K) rfl) (pv 2) (po_some pe_int) po_none) (pa_cons (pv 5) (pa_cons (pv 6) (pa_cons (pv 7) (pa_cons (pv 4) pa_nil)))))))
      (pss_cons (ps_set (i := 9) sc_law.nd rfl (Or.inl rfl) (pe_ix (k_ix (K := K) rfl) (pe_lst (pa_cons pe_non (pa_cons (pe_op op_mod (pe_callTy cr_int1 (by rfl) T.z_int (by decide +kernel) (pa_cons (pe_ix (k_ix (K := K) rfl) (pv 2) pe_int (fun _ _ => rfl)) pa_nil)) (pv 5)) pa_nil))) (pe_op op_mod (pe_callTy cr_int1 (by rfl) T.z_int (by decide +kernel) (pa_cons (pe_ix (k_ix (K := K) rfl) (pv 2) pe_int (fun _ _ => rfl)) pa_nil)) pe_int) (fun _ _ => rfl)))
      (pss_cons (ps_set (i := 10) sc_law.nd rfl (Or.inl rfl) (pe_lst (pa_cons (pe_ix (k_ix (K := K) rfl) (pv 8) pe_int (fun _ _ => rfl)) (pa_cons (pe_ix (k_ix (K := K) rfl) (pv 8) pe_int (fun _ _ => rfl)) (pa_cons (pe_ix (k_ix (K := K) rfl) (pv 8) pe_int (fun _ _ => rfl)) (pa_cons (pe_ix (k_ix (K := K) rfl) (pv 8) pe_int (fun _ _ => rfl)) pa_nil))))))
      (Evl.pss_cut (ps_if (pt_cmpR (k_eqG (K := K) rfl hr.units) (pe_op op_mod (pe_callTy cr_int1 (by rfl) T.z_int (by decide +kernel) (pa_cons (pe_ix (k_ix (K := K) rfl) (pv 2) pe_int (fun _ _ => rfl)) pa_nil)) pe_int) pe_int (nomark _)) (pss_cons (ps_setLc (i := 10) (own := [("_law_part", 20)]) (g := gName 20) (tt := tYes) rfl sc_law.nd rfl rfl (sw_true rfl rfl rfl (by decide +kernel)) (k_seqS (K := K) rfl (pv 10)) (blkOk_by (own := [("_law_part", 20)]) (by kernel_rfl)) (fun _ _ _ _ _ => (pg_name (i := 20) sc_law.nd rfl (by first | exact Or.inl rfl | exact Or.inr rfl))) (fun _ _ _ _ _ => pts_nil) (fun _ _ _ _ _ => (pe_call (ok_L_listed_at T 4) (hr.mono (by decide)) (by rfl) T.g_L_listed T.F_L_listed.kp T.b_L_listed .nil pass0 (pa_cons (pv 20) pa_nil))))
      (pss_one (ps_asg (pe_lc (own := [("_law_layer", 11)]) (g := gName 11) (tt := tYes) rfl sc_law.nd (k_seqS (K := K) rfl (pe_ix (k_ix (K := K) rfl) (pv 10) pe_int (fun _ _ => rfl))) (blkOk_by (own := [("_law_layer", 11)]) (by kernel_rfl)) (fun _ _ _ _ _ => (pg_name (i := 11) sc_law.nd rfl (by first | exact Or.inl rfl | exact Or.inr rfl))) (fun _ _ _ _ _ => pts_nil) (fun _ _ _ _ _ => (pe_callTy (k_tupS (K := K) rfl) (by rfl) T.z_tuple (by decide +kernel) (pa_cons (pv 11) pa_nil)))) (pg_sub (pv 10) pe_int set_list)))) pss_nil)
      (pss_cons (ps_set (i := 12) sc_law.nd rfl (Or.inl rfl) (pe_callB (k_reprG (K := K) rfl hA hr.units) (by rfl) T.z_repr (by decide +kernel) (pa_cons (pv 10) pa_nil)))
      (pss_cons (ps_set (i := 13) sc_law.nd rfl (Or.inl rfl) (pe_make T.M_Net (ok_Net___init__ T) (hr.mono (by decide)) rfl T.gc_Net T.b_Net___init__ .nil pass0 (pa_cons (pv 4) (pa_cons (pe_ix (k_ix (K := K) rfl) (pv 10) pe_int (fun _ _ => rfl)) (pa_cons (pe_ix (k_ix (K := K) rfl) (pv 10) pe_int (fun _ _ => rfl)) (pa_cons (pe_ix (k_ix (K := K) rfl) (pv 10) pe_int (fun _ _ => rfl)) (pa_cons (pe_ix (k_ix (K := K) rfl) (pv 10) pe_int (fun _ _ => rfl)) (pa_cons (pv 9) pa_nil))))))))
      (pss_cons (ps_if (pt_cmpR (k_neG (K := K) rfl hr.units) (pe_callB (k_reprG (K := K) rfl hA hr.units) (by rfl) T.z_repr (by decide +kernel) (pa_cons (pv 10) pa_nil)) (pv 12) (nomark _)) (pss_one (ps_ret pe_bl)) pss_nil)
      (pss_cons (ps_if (PW.pt (pw_or (pt_not (k_tru (K := K) rfl (pe_call (ok_L_same_at T 5) (hr.mono (by decide)) (by rfl) T.g_L_same T.F_L_same.kp T.b_L_same .nil pass0 (pa_cons (k_fld (K := K) rfl (pv 13) rfl) (pa_cons (pv 4) pa_nil))) (by intro _; rfl))) (pw_or (pt_not (k_tru (K := K) rfl (pe_call (ok_L_same_at T 5) (hr.mono (by decide)) (by rfl) T.g_L_same T.F_L_same.kp T.b_L_same .nil pass0 (pa_cons (k_fld (K := K) rfl (pv 13) rfl) (pa_cons (pv 9) pa_nil))) (by intro _; rfl))) (pw_or1 (pt_not (k_tru (K := K) rfl (pe_call (ok_L_same_at T 5) (hr.mono (by decide)) (by rfl) T.g_L_same T.F_L_same.kp T.b_L_same .nil pass0 (pa_cons (pe_prop (pv 13) T.C_Net T.P_Net_letters (ok_Net_letters T) (hr.mono (by decide)) T.b_Net_letters .nil pass0 rfl) (pa_cons (pv 5) pa_nil))) (by intro _; rfl))))))) (pss_one (ps_ret pe_bl)) pss_nil)
      (Evl.pss_cut (ps_if (pt_cmpR (k_eqG (K := K) rfl hr.units) (pe_op op_mod (pe_callTy cr_int1 (by rfl) T.z_int (by decide +kernel) (pa_cons (pe_ix (k_ix (K := K) rfl) (pv 2) pe_int (fun _ _ => rfl)) pa_nil)) pe_int) pe_int (nomark _)) (pss_cons (ps_expr (pe_call (ok_L_spoilt T) (hr.mono (by decide)) (by rfl) T.g_L_spoilt T.F_L_spoilt.kp T.b_L_spoilt .nil pass0 (pa_cons (pe_ix (k_ix (K := K) rfl) (pv 10) pe_int (fun _ _ => rfl)) pa_nil)))
      (pss_cons (ps_expr (pe_call (ok_L_spoilt_one T) (hr.mono (by decide)) (by rfl) T.g_L_spoilt_one T.F_L_spoilt_one.kp T.b_L_spoilt_one .nil pass0 (pa_cons (pe_ix (k_ix (K := K) rfl) (pv 10) pe_int (fun _ _ => rfl)) pa_nil)))
      (pss_cons (ps_expr (pe_call (ok_L_spoilt T) (hr.mono (by decide)) (by rfl) T.g_L_spoilt T.F_L_spoilt.kp T.b_L_spoilt .nil pass0 (pa_cons (pe_ix (k_ix (K := K) rfl) (pv 10) pe_int (fun _ _ => rfl)) pa_nil)))
      (pss_cons (ps_for PassesOwn.never rfl (k_seqS (K := K) rfl (pe_ix (k_ix (K := K) rfl) (pv 10) pe_int (fun _ _ => rfl))) (pg_name (i := 11) sc_law.nd rfl (Or.inl rfl))
      (pss_one (ps_expr (pe_call (ok_L_spoilt T) (hr.mono (by decide)) (by rfl) T.g_L_spoilt T.F_L_spoilt.kp T.b_L_spoilt .nil pass0 (pa_cons (pe_ix (k_ix (K := K) rfl) (pv 11) (pe_op op_mod (pe_callTy cr_int1 (by rfl) T.z_int (by decide +kernel) (pa_cons (pe_ix (k_ix (K := K) rfl) (pv 2) pe_int (fun _ _ => rfl)) pa_nil)) pe_int) (fun _ _ => rfl)) pa_nil)))))
      (pss_one (ps_expr (k_bm (K := K) rfl PySem.F.plainAttrs_list PySem.F.slot_list_append PySem.F.type_list_append mt_append (pe_ix (k_ix (K := K) rfl) (pv 10) pe_int (fun _ _ => rfl)) (pa_cons (pe_tup pa_nil) pa_nil)))))))) pss_nil)
      (pss_cons (ps_set (i := 14) sc_law.nd rfl (Or.inl rfl) (pe_lst pa_nil))
      (pss_cons (ps_for PassesOwn.never rfl (pi_range1 rfl T.z_range (pa_cons (pe_op (k_addG (K := K) rfl) pe_int (pe_op op_mod (pe_callTy cr_int1 (by rfl) T.z_int (by decide +kernel) (pa_cons (pe_ix (k_ix (K := K) rfl) (pv 2) pe_int (fun _ _ => rfl)) pa_nil)) pe_int)) pa_nil)) (pg_name (i := 15) sc_law.nd rfl (Or.inl rfl))
      (pss_cons (ps_set (i := 16) sc_law.nd rfl (Or.inl rfl) (pe_op op_mod (pe_callTy cr_int1 (by rfl) T.z_int (by decide +kernel) (pa_cons (pe_ix (k_ix (K := K) rfl) (pv 2) (pe_op (k_addG (K := K) rfl) pe_int (pv 15)) (fun _ _ => rfl)) pa_nil)) (pv 5)))
      (pss_cons (ps_set (i := 17) sc_law.nd rfl (Or.inl rfl) (pe_call (ok_L_row T) (hr.mono (by decide)) (by rfl) T.g_L_row T.F_L_row.kp T.b_L_row .nil pass0 (pa_cons (pv 8) (pa_cons (pv 14) (pa_cons (pv 16) pa_nil)))))
      (pss_cons (ps_set (i := 18) sc_law.nd rfl (Or.inl rfl) (pe_callTy (k_listS (K := K) rfl) (by rfl) T.z_list (by decide +kernel) (pa_cons (pv 14) pa_nil)))
      (Evl.pss_cut (ps_if (pt_cmpR (k_eqG (K := K) rfl hr.units) (pe_op op_mod (pe_callTy cr_int1 (by rfl) T.z_int (by decide +kernel) (pa_cons (pe_ix (k_ix (K := K) rfl) (pv 2) pe_int (fun _ _ => rfl)) pa_nil)) pe_int) pe_int (nomark _)) (pss_one (ps_set (i := 18) sc_law.nd rfl (Or.inl rfl) (pe_callTy (k_tupS (K := K) rfl) (by rfl) T.z_tuple (by decide +kernel) (pa_cons (pv 14) pa_nil)))) pss_nil)
      (pss_cons (ps_if (PW.pt (pw_or (pt_not (k_tru (K := K) rfl (pe_call (ok_L_same_at T 5) (hr.mono (by decide)) (by rfl) T.g_L_same T.F_L_same.kp T.b_L_same .nil pass0 (pa_cons (pe_meth (pv 13) T.C_Net T.m_Net_row (ok_Net_row T) (hr.mono (by decide)) T.b_Net_row .nil pass0 (pa_cons (pv 18) (pa_cons (pv 16) pa_nil))) (pa_cons (pv 17) pa_nil))) (by intro _; rfl))) (pw_or1 (pt_cmpR (k_neG (K := K) rfl hr.units) (pe_callTy (k_listS (K := K) rfl) (by rfl) T.z_list (by decide +kernel) (pa_cons (pv 18) pa_nil)) (pv 14) (nomark _))))) (pss_one (ps_ret pe_bl)) pss_nil)
      (pss_one (ps_expr (k_bm (K := K) rfl PySem.F.plainAttrs_list PySem.F.slot_list_append PySem.F.type_list_append mt_append (pv 14) (pa_cons (pv 17) pa_nil))))))))))
      (pss_cons (ps_set (i := 19) sc_law.nd rfl (Or.inl rfl) (pe_call (ok_L_odd T) (hr.mono (by decide)) (by rfl) T.g_L_odd T.F_L_odd.kp T.b_L_odd .nil pass0 (pa_cons (pv 2) (pa_cons pe_int (pa_cons (pe_listRg rfl (by rfl) T.z_list (prg_1 (by rfl) T.z_range (pv 5))) (pa_cons (pv 5) pa_nil))))))
      (pss_cons (ps_if (pt_not (k_tru (K := K) rfl (pe_call (ok_L_same_at T 5) (hr.mono (by decide)) (by rfl) T.g_L_same T.F_L_same.kp T.b_L_same .nil pass0 (pa_cons (pe_callG (ok_L_ask T) hA (hr.mono (by decide)) (by rfl) T.g_L_ask T.F_L_ask.kp T.b_L_ask pass0 (pa_cons (pv 13) (pa_cons pe_str (pa_cons (pv 19) pa_nil)))) (pa_cons (pe_tup (pa_cons pe_str (pa_cons (pe_callB (k_reprG (K := K) rfl hA hr.units) (by rfl) T.z_repr (by decide +kernel) (pa_cons (pv 19) pa_nil)) pa_nil))) pa_nil))) (by intro _; rfl))) (pss_one (ps_ret pe_bl)) pss_nil)
      (pss_cons (ps_set (i := 19) sc_law.nd rfl (Or.inl rfl) (pe_call (ok_L_odd T) (hr.mono (by decide)) (by rfl) T.g_L_odd T.F_L_odd.kp T.b_L_odd .nil pass0 (pa_cons (pv 2) (pa_cons pe_int (pa_cons (pv 3) (pa_cons pe_int pa_nil))))))
      (pss_one (ps_if (pt_not (k_tru (K := K) rfl (pe_call (ok_L_same_at T 5) (hr.mono (by decide)) (by rfl) T.g_L_same T.F_L_same.kp T.b_L_same .nil pass0 (pa_cons (pe_callG (ok_L_ask T) hA (hr.mono (by decide)) (by rfl) T.g_L_ask T.F_L_ask.kp T.b_L_ask pass0 (pa_cons (pv 8) (pa_cons pe_str (pa_cons (pv 19) pa_nil)))) (pa_cons (pe_tup (pa_cons pe_str (pa_cons (pe_callB (k_reprG (K := K) rfl hA hr.units) (by rfl) T.z_repr (by decide +kernel) (pa_cons (pv 19) pa_nil)) pa_nil))) pa_nil))) (by intro _; rfl))) (pss_one (ps_ret pe_bl)) pss_nil)))))))))))))))))))))))
      (pss_one (ps_ret pe_bl))), ?_⟩
    refine go_start (σ' := [some (.ref a), none, none, none, none, none, none, none, none, none, none, none, none, none, none, none, none, none, none, none, none]) rfl ?_
    try dsimp only [cxOf, Cx.nox, Cx.wish]
    walk_at "go"
    have hmin : ∀ z : Int, (if (3 : Int) < z then 3 else z) ≤ z ∧ (if (3 : Int) < z then 3 else z) ≤ 3 := fun z => by split <;> omega
    have hm := hmin sc.length
    have hm0 : (0 : Int) ≤ (if (3 : Int) < (sc.length : Int) then 3 else (sc.length : Int)) := by split <;> omega
    refine l_range (fun i σ H' => ∃ ys, σ = some (.ref a) :: ys ∧ ys.length = 20 ∧ Same H H')
      (by omega) (by omega) ⟨_, rfl, rfl, Same.refl _⟩ ?_ ?_
    · rintro i σ H' hi ⟨ys, rfl, hys, sm⟩
      obtain ⟨y1, y2, y3, y4, y5, y6, y7, y8, y9, y10, y11, y12, y13, y14, y15, y16, y17, y18, y19, y20, rfl⟩ : ∃ y1 y2 y3 y4 y5 y6 y7 y8 y9 y10 y11 y12 y13 y14 y15 y16 y17 y18 y19 y20, ys = [y1, y2, y3, y4, y5, y6, y7, y8, y9, y10, y11, y12, y13, y14, y15, y16, y17, y18, y19, y20] := by
        rcases ys with _ | ⟨y1, ys⟩; · cases hys
        iterate 19 (rcases ys with _ | ⟨_, ys⟩; · cases hys)
        rcases ys with _ | ⟨_, ys⟩
        · exact ⟨_, _, _, _, _, _, _, _, _, _, _, _, _, _, _, _, _, _, _, _, rfl⟩
        · cases hys
      walk_at "go"
      refine ⟨_, _, _, rfl, by omega, by omega, fun ns p H1 hnl hnb s1 hp hL => ?_⟩
      have nn : ∀ i : Int, 0 ≤ i → i < 200 → 0 ≤ nth ns i ∧ nth ns i < 1000 := fun i h0 h1 => hnb _ (nth_mem h0 (by omega))
      have n0 := nn 0 (by omega) (by omega)
      have n1 := nn 1 (by omega) (by omega)
      have n2 := nn 2 (by omega) (by omega)
      have n3 := nn 3 (by omega) (by omega)
      have n4 := nn 4 (by omega) (by omega)
      have n5 := nn 5 (by omega) (by omega)
      have n6 := nn 6 (by omega) (by omega)
      walk_at "GO"
      -- the prime
      rename_i pl H2 hpl s2 e2 p3 H3 hp3 s3 e3
      have e2 : H2 pl = some (.lst (primes.map V.int)) := e2
      refine w_catLL (s3 _ _ e2) e3 (by show 25 + 5 ≤ sizeLine; decide) fun p4 hp4 => ?_
      have s4 := Same.new (o := .lst (primes.map V.int ++ [.int 2, .int 3, .int 5, .int 97, .int 2])) hp4
      have e4 : (upd H3 p4 (.lst (primes.map V.int ++ [.int 2, .int 3, .int 5, .int 97, .int 2]))) p4 = some (.lst ((primes ++ [2, 3, 5, 97, 2]).map V.int)) := by
        rw [upd_same, List.map_append]; rfl
      generalize upd H3 p4 _ = H4 at s4 e4 ⊢
      have s14 := (s2.trans s3).trans s4
      have s24 := s3.trans s4
      have hL4 := s14 _ _ hL
      have e24 := s24 _ _ e2
      clear s2 s3 s4 e3 hpl hp3 hp4
      walk_at "GO"
      refine w_ixI (ns := primes ++ [2, 3, 5, 97, 2]) (b := true) (Sq.lst e4) (by omega) (by show _ < (30 : Int); omega) ?_
      have hpm := prime_in2 (nth_mem (ns := primes ++ [2, 3, 5, 97, 2]) (i := nth ns 0 % 30) (by omega) (by show _ < (30 : Int); omega))
      generalize nth (primes ++ [2, 3, 5, 97, 2]) (nth ns 0 % 30) = pr at hpm ⊢
      have hpb := prime_between hpm
      clear e4 s24
      walk_at "GO"
      rename_i q1 H5 hq1 s5 e5
      have e5 : H5 q1 = some (.lst (([1, 2, 3, 4, 2, 3, 5, 1 + nth ns 1 % 12] : List Int).map V.int)) := e5
      have hL5 := s5 _ _ hL4
      refine w_ixI (ns := [1, 2, 3, 4, 2, 3, 5, 1 + nth ns 1 % 12]) (b := true) (Sq.lst e5) (by omega) (by show _ < (8 : Int); omega) ?_
      obtain ⟨L, hLe, hL0⟩ : ∃ L : Nat, nth [1, 2, 3, 4, 2, 3, 5, 1 + nth ns 1 % 12] (nth ns 1 / 100 % 8) = (L : Int) ∧ 1 ≤ L ∧ L ≤ 12 := by
        have hm := nth_mem (ns := [1, 2, 3, 4, 2, 3, 5, 1 + nth ns 1 % 12]) (i := nth ns 1 / 100 % 8) (by omega) (by show _ < (8 : Int); omega)
        simp only [List.mem_cons, List.not_mem_nil, or_false] at hm
        exact ⟨(nth [1, 2, 3, 4, 2, 3, 5, 1 + nth ns 1 % 12] (nth ns 1 / 100 % 8)).toNat, by omega, by omega⟩
      rw [hLe]
      clear e5
      walk_at "GO"
      rename_i q2 H6 hq2 s6 e6
      have e6 : H6 q2 = some (.lst (([0, 1, 1, 2, 1, 3] : List Int).map V.int)) := e6
      have hL6 := s6 _ _ hL5
      refine w_ixI (ns := [0, 1, 1, 2, 1, 3]) (b := true) (Sq.lst e6) (by omega) (by show _ < (6 : Int); omega) ?_
      have hmm : 0 ≤ nth [0, 1, 1, 2, 1, 3] (nth ns 3 % 6) ∧ nth [0, 1, 1, 2, 1, 3] (nth ns 3 % 6) ≤ 3 := by
        have hm := nth_mem (ns := [0, 1, 1, 2, 1, 3]) (i := nth ns 3 % 6) (by omega) (by show _ < (6 : Int); omega)
        simp only [List.mem_cons, List.not_mem_nil, or_false] at hm
        omega
      generalize nth [0, 1, 1, 2, 1, 3] (nth ns 3 % 6) = mm at hmm ⊢
      clear e6
      walk_at "GO"
      refine w_slC (ys := (ns.drop 40).map V.int) (Sq.lst hL6) (by rw [show (40 : Int) = ((40 : Nat) : Int) from rfl, cutV_from (by rw [List.length_map]; omega), List.map_drop]) fun q3 hq3 => ?_
      walk_at "GO"
      refine ⟨q3, _, true, _, _, _, _, rfl, Sq.lst upd_same, by rw [List.length_drop]; omega, by rw [List.length_drop]; omega, by omega, by omega, by omega, by omega, hmm.1, hmm.2, hpb.1, hpb.2, fun vN H7 nd s7 rN ok hp4 he4 ho4 hm4 => ?_⟩
      subst hp4
      have s67 := (Same.new (o := .lst ((ns.drop 40).map V.int)) hq3).trans s7
      have sA17 := ((s14.trans s5).trans s6).trans s67
      have e27 := ((s5.trans s6).trans s67) _ _ e24
      have hL7 := s67 _ _ hL6
      have heL : nd.emb.length = L := by omega
      clear s5 s6 s7 s67 hL4 hL5 hL6 hq1 hq2 hq3 e24 s14 hLe
      generalize ewd : (1 + nth ns 2 % 4).toNat = wd at ok
      have hwd : 1 ≤ wd ∧ wd ≤ 4 := by omega
      walk_at "GO"
      rename_i q4 H8 hq4 s8 e8
      obtain ⟨ev, hev, hx⟩ : ∃ ev, (ev = .non ∨ ∃ i, ev = .int i) ∧ [V.non, V.int (nth ns 4 % (L : Int))][(nth ns 5 % 2).toNat]? = some ev := by
        have h2 : (nth ns 5 % 2).toNat = 0 ∨ (nth ns 5 % 2).toNat = 1 := by omega
        rcases h2 with h | h <;> rw [h]
        · exact ⟨_, .inl rfl, rfl⟩
        · exact ⟨_, .inr ⟨_, rfl⟩, rfl⟩
      rw [show nth ns 5 % 2 = (((nth ns 5 % 2).toNat : Nat) : Int) by omega]
      refine w_ix (Sq.lst e8) (atI_nat hx) ?_
      clear hx e8 n5
      obtain ⟨an, v1, v2, v3, v4, rfl, hn7, r1, r2, r3, r4⟩ := id rN
      have hn8 := s8.sq hn7
      have r1 := RMat.mono _ _ _ _ s8 r1
      have r2 := RVec.mono _ _ _ _ s8 r2
      have r3 := RSeq.mono (RSeq.mono RMat.mono) _ _ _ _ s8 r3
      have r4 := RMat.mono _ _ _ _ s8 r4
      walk_at "GO"
      rename_i P0 H9 hP0 s9 e9
      have hw4 := ok.w4
      have he12 := ok.e12
      have ho12 := ok.o12
      have hl3 := ok.l3
      refine w_cut (fun σ H' => ∃ (b : Bool) (P : Addr) (w1 w2 w3 w4 : V), σ = [some (.ref a), some (.int (i : Nat)), some (.ref p), some (.ref pl), some (.int nd.p), some (.int (L : Nat)), some (.int (1 + nth ns 2 % 4)), some (.int mm), some (.ref an), some ev, some (.ref P), y11, y12, y13, y14, y15, y16, y17, y18, y19, y20] ∧ (b = true ↔ nth ns 6 % 2 = 0) ∧ Same H8 H' ∧ H' P = some (.lst [w1, w2, w3, w4]) ∧
          RMatB b K H' w1 nd.emb ∧ RVec b K H' w2 nd.sh ∧ RLayB b K H' w3 nd.lay ∧ RMatB b K H' w4 nd.out ∧ (b = true → RDn H8 2 H' w1 nd.emb ∧ RDn H8 1 H' w2 nd.sh ∧ LayL K H8 H' w3 nd.lay ∧ RDn H8 2 H' w4 nd.out)) ?_ ?_
      -- SKIP<
      · walk_at "GO"
        refine w_iteD (fun h6 => ?_) (fun h6 => ?_)
        · walk_at "GO"
          refine l_compS [v1, v2, v3, v4] (Sq.lst e9) (line_of (by show 4 ≤ 1000000; omega)) (fun i y H' => (i = 0 → RDn H9 2 H' y nd.emb) ∧ (i = 1 → RDn H9 1 H' y nd.sh) ∧ (i = 2 → RDn H9 4 H' y nd.lay) ∧ (i = 3 → RDn H9 2 H' y nd.out)) (fun i y H1 H2 s h => ⟨fun z => RDn.mono _ _ _ _ s (h.1 z), fun z => RDn.mono _ _ _ _ s (h.2.1 z), fun z => RDn.mono _ _ _ _ s (h.2.2.1 z), fun z => RDn.mono _ _ _ _ s (h.2.2.2 z)⟩) (fun _ => rfl) (fun i x H10 D acc N hi hx s10 hD e10 hN => ?_) (fun D H10 ys hD s10 e10 hyl hy => ?_)
          · walk_at "GO"
            have few5 : ∀ M ∈ nd.lay, M.length ≤ 1000 ∧ ∀ A ∈ M, A.length ≤ 1000 ∧ ∀ r ∈ A, r.length ≤ 1000 := fun M hM => by
              obtain ⟨h5, h6⟩ := ok.lay M hM
              refine ⟨by omega, fun A hA => ?_⟩
              obtain ⟨h7, h8⟩ := h6 A hA
              exact ⟨by omega, fun r hr => by rw [(h8 r hr).1]; omega⟩
            have s810 := s9.trans s10
            match i, hx with
            | 0, hx =>
              cases hx
              refine ⟨2, _, nd.emb, by omega, rfl, RMat.up2 (RMat.mono _ _ _ _ s810 r1), few_mat (by omega) (fun r hr => by rw [(ok.emb r hr).1]; omega), fun y H11 s11 r => hN y H11 s11 ⟨fun _ => RDn.over s10 (RDn.hide e10 r), fun z => by omega, fun z => by omega, fun z => by omega⟩⟩
            | 1, hx =>
              cases hx
              refine ⟨1, _, nd.sh, by omega, rfl, RVec.up1 (RVec.mono _ _ _ _ s810 r2), few_vec (by rw [ok.sh.1]; omega), fun y H11 s11 r => hN y H11 s11 ⟨fun z => by omega, fun _ => RDn.over s10 (RDn.hide e10 r), fun z => by omega, fun z => by omega⟩⟩
            | 2, hx =>
              cases hx
              refine ⟨4, _, nd.lay, by omega, rfl, RLay.up4 (RSeq.mono (RSeq.mono RMat.mono) _ _ _ _ s810 r3), few_lay (by omega) few5, fun y H11 s11 r => hN y H11 s11 ⟨fun z => by omega, fun z => by omega, fun _ => RDn.over s10 (RDn.hide e10 r), fun z => by omega⟩⟩
            | 3, hx =>
              cases hx
              refine ⟨2, _, nd.out, by omega, rfl, RMat.up2 (RMat.mono _ _ _ _ s810 r4), few_mat (by omega) (fun r hr => by rw [(ok.out r hr).1]; omega), fun y H11 s11 r => hN y H11 s11 ⟨fun z => by omega, fun z => by omega, fun z => by omega, fun _ => RDn.over s10 (RDn.hide e10 r)⟩⟩
            | j + 4, hx => simp at hx
          · obtain ⟨w1, w2, l3, w4, rfl⟩ : ∃ w1 w2 l3 w4, ys = [w1, w2, l3, w4] := by
              match ys, hyl with
              | [w1, w2, l3, w4], _ => exact ⟨_, _, _, _, rfl⟩
            have q1 := (hy 0 w1 rfl).1 rfl
            have q2 := (hy 1 w2 rfl).2.1 rfl
            have q3 := (hy 2 l3 rfl).2.2.1 rfl
            have q4' := (hy 3 w4 rfl).2.2.2 rfl
            obtain ⟨c3, cs, rfl, hc0, hc1, hcl, hcr⟩ := q3
            have hcl : cs.length = nd.lay.length := hcl
            have hcr : ∀ (i : Nat) y (L : List Mat), cs[i]? = some y → nd.lay[i]? = some L → RDn H9 3 (hide D H10) y L := hcr
            have hD10 : Sq true K H10 D [w1, w2, .ref c3, w4] := Sq.lst e10
            have hc10 : Sq true K H10 c3 cs := Sq.lst ((hide_same D H10) _ _ hc1)
            clear hy
            walk_at "GO"
            refine l_compS cs hc10 (line_of (by omega)) (fun i y H' => ∀ L, nd.lay[i]? = some L → RSeq false K (RDn H9 2) (hide D H') y L) (fun i y H1 H2 s h L hL => RSeq.mono RDn.mono _ _ _ _ (hide_mono s) (h L hL)) (fun _ => rfl) (fun i x H11 D2 acc N hi hx s11 hD2 e11 hN => ?_) (fun D2 H11 ts hD2 s11 e11 htl ht => ?_)
            · obtain ⟨L', hL'⟩ : ∃ L', nd.lay[i]? = some L' := ⟨nd.lay[i]'(by omega), List.getElem?_eq_getElem (by omega)⟩
              obtain ⟨m3, ms, rfl, _, hm1, hml, hmr⟩ := hcr i x L' hx hL'
              have hm11 : Sq true K H11 m3 ms := Sq.lst (s11 _ _ ((hide_same D H10) _ _ hm1))
              walk_at "GO"
              rename_i t1 H12 ht1 s12 e12
              refine hN _ _ s12 fun L'' hL'' => ?_
              rw [hL'] at hL''
              cases hL''
              have hDt : t1 ≠ D := fun e => by have := s11 _ _ e10; rw [← e, ht1] at this; cases this
              have hD2t : t1 ≠ D2 := fun e => by rw [← e, ht1] at e11; cases e11
              have s0 : Same H10 (hide D2 H12) := fun c o e => by
                rw [hide_ne (ne_of_none e hD2)]
                exact (s11.trans s12) c o e
              refine ⟨t1, ms, rfl, Sq.tup (by rw [hide_ne hDt, hide_ne hD2t]; exact e12), hml, fun j z M a b => RDn.mono _ _ _ _ (hide_mono s0) (hmr j z M a b)⟩
            · have hD11 := s11 _ _ e10
              walk_at "GO"
              refine w_setL hD11 (by omega) (by show (2 : Int) < 4; omega) ?_
              have hD2D : D2 ≠ D := fun e => by rw [e, e10] at hD2; cases hD2
              have sF : Same (hide D H10) (upd H11 D (.lst [w1, w2, .ref D2, w4])) := by
                have h := hide_same D (upd H11 D (.lst [w1, w2, .ref D2, w4]))
                rw [hide_upd] at h
                exact (hide_mono s11).trans h
              have sF2 : Same (hide D H11) (upd H11 D (.lst [w1, w2, .ref D2, w4])) := by
                have h := hide_same D (upd H11 D (.lst [w1, w2, .ref D2, w4]))
                rw [hide_upd] at h
                exact h
              have s8F : Same H8 (upd H11 D (.lst [w1, w2, .ref D2, w4])) := s9.trans (Same.mut (s10.trans s11) hD)
              have eF : (upd H11 D (.lst [w1, w2, .ref D2, w4])) D = some (.lst [w1, w2, .ref D2, w4]) := upd_same
              have eD2 : (upd H11 D (.lst [w1, w2, .ref D2, w4])) D2 = some (.lst ts) := by rw [upd_ne hD2D]; exact e11
              walk_at "GO"
              have z1 : RDn H8 2 (upd H11 D (.lst [w1, w2, .ref D2, w4])) w1 nd.emb := RDn.over s9 (RDn.mono _ _ _ _ sF q1)
              have z2 : RDn H8 1 (upd H11 D (.lst [w1, w2, .ref D2, w4])) w2 nd.sh := RDn.over s9 (RDn.mono _ _ _ _ sF q2)
              have z4 : RDn H8 2 (upd H11 D (.lst [w1, w2, .ref D2, w4])) w4 nd.out := RDn.over s9 (RDn.mono _ _ _ _ sF q4')
              have z3 : LayL K H8 (upd H11 D (.lst [w1, w2, .ref D2, w4])) (.ref D2) nd.lay := ⟨D2, ts, rfl, none_back (s9.trans s10) hD2, eD2, by rw [htl]; exact hcl, fun i y L a b => by
                obtain ⟨t, ms, e, h1, h2, h3⟩ := RSeq.mono RDn.mono _ _ _ _ ((hide_mono (hide_same D2 H11)).trans sF2) (ht i y a L b)
                exact ⟨t, ms, e, h1, h2, fun i y M a b => RDn.over s9 (h3 i y M a b)⟩⟩
              exact ⟨true, D, w1, w2, .ref D2, w4, rfl, ⟨fun _ => h6, fun _ => rfl⟩, s8F, eF, RDn.mat z1, RDn.vec z2, LayL.b z3, RDn.mat z4, fun _ => ⟨z1, z2, z3, z4⟩⟩
        · walk_at "GO"
          exact ⟨false, P0, v1, v2, v3, v4, rfl, ⟨fun h => (nomatch h), fun h => absurd h h6⟩, s9, e9, RMat.mono _ _ _ _ s9 r1, RVec.mono _ _ _ _ s9 r2, RSeq.mono (RSeq.mono RMat.mono) _ _ _ _ s9 r3, RMat.mono _ _ _ _ s9 r4, fun h => nomatch h⟩
      -- >SKIP
      clear hP0 s9 e9 P0 H9
      rintro σ H9 ⟨b, P, w1, w2, w3, w4, rfl, hb, s9, eP, c1, c2, c3, c4, hsp⟩
      have hL9 := s9 _ _ (s8 _ _ hL7)
      have hP9 : Sq true K H9 P [w1, w2, w3, w4] := Sq.lst eP
      have hdp := dp_parts eP c1 c2 c3 c4
      have hsh := sh_parts (b := b) ok
      walk_at "GO"
      refine w_repr hdp hsh (by omega) (by omega) ?_
      walk_at "GO"
      intro q dx hq hdx hne
      refine told_ofB ok hpm hq hdx c1 c2 c3 c4 fun H10 s10 hN => ⟨rfl, ?_⟩
      have hL10 := s10 _ _ hL9
      walk_at "GO"
      refine w_repr (Dp.mono s10 _ _ hdp) hsh (by omega) (by omega) ?_
      obtain ⟨dxq, u1, u2, u3, u4, h0, _⟩ := id hN
      unfold netF at h0
      have t0 := T.n_Net_prime
      have t5 := T.n_Net_end
      have smi : Sm K H10 5 (.int nd.p) (.int nd.p) := Sm.int
      have sml : Sm K H10 5 (.int (L : Nat)) (.int (L : Nat)) := Sm.int
      have sme : Sm K H10 5 ev ev := by
        rcases hev with rfl | ⟨i, rfl⟩
        · exact .inl ⟨rfl, .inl rfl⟩
        · exact Sm.int
      walk_at "GO"
      refine ⟨_, _, rfl, smi, ?_⟩
      walk_at "GO"
      refine ⟨_, _, rfl, sme, ?_⟩
      walk_at "GO"
      refine ⟨q, nd, ev, rfl, hN, ?_⟩
      rw [heL]
      walk_at "GO"
      refine ⟨_, _, rfl, sml, ?_⟩
      walk_at "GO"
      have s810 := s9.trans s10
      refine w_cut (fun σ H' => ∃ (z11 : Option V), σ = [some (.ref a), some (.int (i : Nat)), some (.ref p), some (.ref pl), some (.int nd.p), some (.int (L : Nat)), some (.int (1 + nth ns 2 % 4)), some (.int mm), some (.ref an), some ev, some (.ref P), z11, some (.str (partsD b nd).shown), some (.ref q), y14, y15, y16, y17, y18, y19, y20] ∧ Same H8 H' ∧ IsNet K T.c_Net H' q nd ev) ?_ ?_
      -- skip<
      · walk_at "GO"
        refine w_iteD (fun h6 => ?_) (fun h6 => ?_)
        · obtain ⟨z1, z2, z3, z4⟩ := hsp (hb.mpr h6)
          have z1 := RDn.mono _ _ _ _ s10 z1
          have z2 := RDn.mono _ _ _ _ s10 z2
          have z3 := z3.mono s10
          have z4 := RDn.mono _ _ _ _ s10 z4
          obtain ⟨b1, as1, rfl, f1, l1, nn1, x1⟩ := RDn.rows z1 ok.emb hwd.1 hwd.2
          obtain ⟨b4, as4, rfl, f4, l4, nn4, x4⟩ := RDn.rows z4 ok.out hwd.1 hwd.2
          obtain ⟨b2, ys2, rfl, hb20, hb21, hb22, hb23⟩ := z2
          obtain ⟨aL, ts, rfl, haL0, haL1, htl, htr⟩ := z3
          have nb2 : NewInts H8 H10 b2 := by
            have e := ints_of hb22 hb23
            have h := ok.sh.1
            generalize nd.sh = sh at e h
            cases sh with
            | nil => exact absurd h (by show ¬ (0 : Nat) = wd; omega)
            | cons n r =>
              have h : r.length + 1 = wd := h
              exact ⟨hb20, n, r, by rw [hb21, e], by omega⟩
          have xP : ¬ NewInts H8 H10 P := not_newInts (s10 _ _ eP) fun n r e => by cases e
          have xL : ¬ NewInts H8 H10 aL := not_newInts haL1 fun n r e => by
            injection e with e
            have h0 : ts[0]? = some (.int n) := by rw [e]; rfl
            have hi := (List.getElem?_eq_some_iff.mp h0).1
            have hd : nd.lay[0]? = some (nd.lay[0]'(by omega)) := List.getElem?_eq_getElem (by omega)
            obtain ⟨_, _, e, _⟩ := htr 0 _ _ h0 hd
            cases e
          have hP10 : Sq true K H10 P [.ref b1, .ref b2, .ref aL, .ref b4] := Sq.lst (s10 _ _ eP)
          walk_at "GO"
          refine ⟨b1, as1, 10, rfl, f1, fun a h => PFr.refl.nums a (nn1 a h), by omega, fun H11 g11 i11 => ?_⟩
          have p11 : PFr H8 H10 22 H11 := PFr.refl.step g11 (fun a h => (i11 a h).up (by omega)) nn1 (by omega)
          have hP11 : Sq true K H11 P [.ref b1, .ref b2, .ref aL, .ref b4] := Sq.lst (p11.fr _ _ xP (s10 _ _ eP))
          walk_at "GO"
          refine ⟨b2, 22, rfl, p11.nums b2 nb2, by omega, fun H12 g12 i12 => ?_⟩
          have p12 : PFr H8 H10 23 H12 := p11.step (as := [b2]) (fun c o hc e => g12 c o (fun z => hc (by rw [z]; exact List.mem_singleton.mpr rfl)) e) (fun a h => by rw [List.mem_singleton.mp h]; exact i12) (fun a h => by rw [List.mem_singleton.mp h]; exact nb2) (by omega)
          have hP12 : Sq true K H12 P [.ref b1, .ref b2, .ref aL, .ref b4] := Sq.lst (p12.fr _ _ xP (s10 _ _ eP))
          walk_at "GO"
          refine ⟨b4, as4, 23, rfl, p12.fr _ _ x4 f4, fun a h => p12.nums a (nn4 a h), by omega, fun H13 g13 i13 => ?_⟩
          have p13 : PFr H8 H10 35 H13 := p12.step g13 (fun a h => (i13 a h).up (by omega)) nn4 (by omega)
          have hP13 : Sq true K H13 P [.ref b1, .ref b2, .ref aL, .ref b4] := Sq.lst (p13.fr _ _ xP (s10 _ _ eP))
          walk_at "GO"
          refine l_seq (b := true) ts (fun i' σ H' => ∃ (z11 : Option V), σ = [some (.ref a), some (.int (i : Nat)), some (.ref p), some (.ref pl), some (.int nd.p), some (.int (L : Nat)), some (.int (1 + nth ns 2 % 4)), some (.int mm), some (.ref an), some ev, some (.ref P), z11, some (.str (partsD b nd).shown), some (.ref q), y14, y15, y16, y17, y18, y19, y20] ∧ PFr H8 H10 (35 + 4 * i') H') (Sq.lst (p13.fr _ _ xL haL1)) ⟨_, rfl, p13⟩ (fun i' σ H' _ ⟨_, _, f⟩ => Sq.lst (f.fr _ _ xL haL1)) ?_ ?_
          · rintro i' x σ H14 hi' hx ⟨z11, rfl, p14⟩
            have hd : nd.lay[i']? = some (nd.lay[i']'(by omega)) := List.getElem?_eq_getElem (by omega)
            generalize nd.lay[i']'(by omega) = L' at hd
            obtain ⟨h5, hM⟩ := ok.lay L' (List.mem_of_getElem? hd)
            obtain ⟨t, ms, rfl, hq1, hml, hmr⟩ := htr i' x L' hx hd
            have hml : ms.length = L'.length := hml
            have hmr : ∀ (i : Nat) y (M : Mat), ms[i]? = some y → L'[i]? = some M → RDn H8 2 H10 y M := hmr
            have hq14 : Sq false K H14 t ms := p14.lists.sq (sq_noL hq1)
            have hL14 : H14 p = some (.lst (ns.map V.int)) := (p14.over s810) _ _ (s8 _ _ hL7)
            walk_at "GO"
            obtain ⟨jm, hjm, hjm2⟩ : ∃ jm : Nat, nth ns 17 % 5 = (jm : Int) ∧ jm < 5 := ⟨(nth ns 17 % 5).toNat, by omega, by omega⟩
            rw [hjm]
            have hmx : ms[jm]? = some (ms[jm]'(by omega)) := List.getElem?_eq_getElem (by omega)
            have hmd : L'[jm]? = some (L'[jm]'(by omega)) := List.getElem?_eq_getElem (by omega)
            refine w_ix hq14 (atI_nat hmx) ?_
            have hz := hmr jm _ _ hmx hmd
            obtain ⟨hMl, hMok⟩ := hM _ (List.mem_of_getElem? hmd)
            generalize ms[jm]'(by omega) = mv at hz ⊢
            generalize L'[jm]'(by omega) = M at hz hMl hMok
            obtain ⟨bm, asm, rfl, fm, lm, nm, xm⟩ := RDn.rows hz hMok hwd.1 hwd.2
            walk_at "GO"
            refine ⟨bm, asm, 35 + 4 * i', rfl, p14.fr _ _ xm fm, fun a h => p14.nums a (nm a h), by omega, fun H15 g15 i15 => ?_⟩
            walk_at "GO"
            exact ⟨_, rfl, p14.step g15 (fun a h => (i15 a h).up (by omega)) nm (by omega)⟩
          · rintro σ H14 ⟨z11, rfl, p14⟩
            have hP14 : Sq true K H14 P [.ref b1, .ref b2, .ref aL, .ref b4] := Sq.lst (p14.fr _ _ xP (s10 _ _ eP))
            have haL14 : Sq true K H14 aL ts := Sq.lst (p14.fr _ _ xL haL1)
            walk_at "GO"
            rename_i tE H15 htE s15 eE
            refine w_append (s15 _ _ (p14.fr _ _ xL haL1)) (line_of1 (by omega)) ?_
            walk_at "GO"
            exact ⟨_, rfl, ((p14.over s810).trans s15).mut haL0, (net_noL hN).mono ((p14.lists.trans s15).mut (by
              unfold noL
              rw [haL1]))⟩
        · walk_at "GO"
          exact ⟨_, rfl, s810, hN⟩
      -- >skip
      clear hsp hb hdp hsh smi sme sml h0 hP9 c1 c2 c3 c4 eP hL10 hL9 s9
      rintro σ H11 ⟨z11, rfl, s11, hN11⟩
      clear s10 s810 hN hq hdx hne t0 t5
      have hL11 := s11 _ _ (s8 _ _ hL7)
      walk_at "GO"
      rename_i aR H12 haR s12 eR
      have n7 := nn 7 (by omega) (by omega)
      have s712 := (s8.trans s11).trans s12
      have hmod : ∀ z : Int, 0 ≤ z % (L : Int) ∧ z % (L : Int) < L := fun z => ⟨Int.emod_nonneg _ (by omega), Int.emod_lt_of_pos _ (by omega)⟩
      refine l_range (fun k' σ H' => ∃ (z15 z16 z17 z18 : Option V) (ls : List Nat), σ = [some (.ref a), some (.int (i : Nat)), some (.ref p), some (.ref pl), some (.int nd.p), some (.int (L : Nat)), some (.int (1 + nth ns 2 % 4)), some (.int mm), some (.ref an), some ev, some (.ref P), z11, some (.str (partsD b nd).shown), some (.ref q), some (.ref aR), z15, z16, z17, z18, y19, y20] ∧ ls.length = k' ∧ (∀ l ∈ ls, l < nd.emb.length) ∧ Filled (RRow K) H11 H' aR (rowsD nd ls []))
        (by omega) (by omega) ⟨_, _, _, _, [], rfl, rfl, List.forall_mem_nil _, haR, s12, [], eR, rfl, fun i y d e => by simp at e⟩ ?_ ?_
      · rintro k' σ H13 hk ⟨z15, z16, z17, z18, ls, rfl, hll, hlb, f⟩
        have hL13 := f.same _ _ hL11
        have hk6 : k' < 6 := by omega
        have s813 := s11.trans f.same
        obtain ⟨ys, eY, hyl, _⟩ := f.at_
        have hlen : (rowsD nd ls []).length = k' := by rw [rowsD_len]; simp only [List.length_nil]; omega
        have hok := rowsD_ok ok ls [] hlb (List.forall_mem_nil _)
        walk_at "GO"
        have h8 := hmod (nth ns (8 + (k' : Int)))
        obtain ⟨l, hl, hll2⟩ : ∃ l : Nat, nth ns (8 + (k' : Int)) % (L : Int) = (l : Int) ∧ l < nd.emb.length := ⟨(nth ns (8 + (k' : Int)) % (L : Int)).toNat, by omega, by omega⟩
        rw [hl]
        refine ⟨.ref an, .ref aR, nd, rowsD nd ls [], l, wd, rfl, ⟨an, v1, v2, v3, v4, rfl, s813.sq hn8, RMat.mono _ _ _ _ s813 r1, RVec.mono _ _ _ _ s813 r2, RSeq.mono (RSeq.mono RMat.mono) _ _ _ _ s813 r3, RMat.mono _ _ _ _ s813 r4⟩, ok, f.seq RRow.mono, hok, by omega, hll2, fun vD H14 s14 rD => ?_⟩
        have f14 := f.mono RRow.mono s14
        have eY14 : Sq true K H14 aR ys := Sq.lst (s14 _ _ eY)
        have hL14 := s14 _ _ hL13
        walk_at "GO"
        rename_i hd0 H15 hhd0 s15 e15
        refine w_cut (fun σ H' => ∃ (hd : Addr) (bh : Bool), σ = [some (.ref a), some (.int (i : Nat)), some (.ref p), some (.ref pl), some (.int nd.p), some (.int (L : Nat)), some (.int (1 + nth ns 2 % 4)), some (.int mm), some (.ref an), some ev, some (.ref P), z11, some (.str (partsD b nd).shown), some (.ref q), some (.ref aR), some (.int (k' : Nat)), some (.int (l : Nat)), some vD, some (.ref hd), y19, y20] ∧ Same H15 H' ∧ Sq bh K H' hd ys) ?_ ?_
        · have eY15 := s15.sq eY14
          have hL15 := s15 _ _ hL14
          walk_at "GO"
          refine w_iteD (fun _ => ?_) (fun _ => ?_)
          · walk_at "GO"
            rename_i t1 H16 ht1 s16 e16
            exact ⟨t1, false, rfl, s16, Sq.tup e16⟩
          · walk_at "GO"
            exact ⟨hd0, true, rfl, Same.refl _, Sq.lst e15⟩
        rintro σ H16 ⟨hd, bh, rfl, s16, hq16⟩
        have s1416 := s15.trans s16
        obtain ⟨ysx, eyx, hlx, hrx⟩ := f14.at_
        obtain rfl : ysx = ys := by
          rw [s14 _ _ eY] at eyx
          injection eyx with eyx
          injection eyx with eyx
          exact eyx.symm
        have rS : RSeq bh K (RRow K) H16 (.ref hd) (rowsD nd ls []) := ⟨hd, ysx, rfl, hq16, hlx, fun i y d a b => RRow.mono _ _ _ _ ((hide_same aR H14).trans s1416) (hrx i y d a b)⟩
        have hN16 := hN11.mono ((f.same.trans s14).trans s1416)
        obtain ⟨dxq, u1, u2, u3, u4, h0, _⟩ := id hN16
        unfold netF at h0
        walk_at "GO"
        refine ⟨q, nd, ev, .ref hd, bh, rowsD nd ls [], l, wd, rfl, hN16, ok, rS, hok, by omega, hll2, fun vR H17 s17 rR => ?_⟩
        walk_at "GO"
        refine ⟨_, _, rfl, Sm.up (row_sm ok (rowD_ok ok hok hll2) rR (RRow.mono _ _ _ _ (s1416.trans s17) rD)), ?_⟩
        have hq17 := s17.sq hq16
        walk_at "GO"
        rename_i h2 H18 hh2 s18 e18
        have s1418 := (s1416.trans s17).trans s18
        have f18 := f14.mono RRow.mono s1418
        have rS18 := fun i y d a b => RRow.mono (K := K) _ _ _ _ ((hide_same aR H14).trans s1418) (hrx i y d a b)
        refine w_neRows ⟨h2, ysx, rfl, Sq.lst e18, hlx, rS18⟩ ⟨aR, ysx, rfl, s1418.sq eY14, hlx, rS18⟩ ?_
        walk_at "GO"
        obtain ⟨ys2, e2', hl2, fp⟩ := f18.push (d := rowD nd (rowsD nd ls []) l) (RRow.tup _ _ _ _ (NTup.lst (s1418 _ _ (s14 _ _ eY))) (RRow.mono _ _ _ _ s1418 rD))
        refine w_append e2' (line_of1 (by omega)) ?_
        walk_at "GO"
        refine ⟨_, _, _, _, ls ++ [l], rfl, by rw [List.length_append, hll]; rfl, fun x hx => ?_, ?_⟩
        · rcases List.mem_append.mp hx with h | h
          · exact hlb x h
          · rw [List.mem_singleton.mp h]; exact hll2
        · rw [rowsD_snoc]
          exact fp
      · rintro σ H13 ⟨z15, z16, z17, z18, ls, rfl, hll, hlb, f⟩
        have hL13 := f.same _ _ hL11
        walk_at "GO"
        refine ⟨RgOk.of_le (by omega) (by omega) (by omega) (by omega), fun g hg => ?_⟩
        rw [rgV_ints (by omega)]
        have s14 := Same.new (o := .lst (((List.range ((L : Nat) : Int).toNat).map fun i => ((i : Nat) : Int)).map V.int)) hg
        have e14 : (upd H13 g (.lst (((List.range ((L : Nat) : Int).toNat).map fun i => ((i : Nat) : Int)).map V.int))) g = some (.lst (((List.range ((L : Nat) : Int).toNat).map fun i => ((i : Nat) : Int)).map V.int)) := upd_same
        generalize upd H13 g (.lst (((List.range ((L : Nat) : Int).toNat).map fun i => ((i : Nat) : Int)).map V.int)) = H14 at s14 e14 ⊢
        have hL14 := s14 _ _ hL13
        have s1114 := f.same.trans s14
        walk_at "GO"
        refine ⟨p, g, ns, _, 22, L, rfl, hL14, hnb, by omega, by omega, e14, by omega, by omega, fun v d H15 s15 hv hno => ?_⟩
        have hs := hv.1
        have s1115 := s1114.trans s15
        walk_at "GO"
        refine ⟨.ref q, v, _, d, rfl, hv, .inr ⟨rfl, ⟨q, nd, ev, rfl, hN11.mono s1115, by rw [heL]; exact bad_letter hno⟩, fun pA H16 s16 hA16 => ?_⟩⟩
        walk_at "GO"
        refine ⟨v, d, rfl, (ROdd.mono _ _ _ _ s16 hv).dp, hs.ok, hs.nod, hs.deep, hs.size, ?_⟩
        walk_at "GO"
        rename_i pT H17 hpT s17 e17
        refine ⟨_, _, rfl, sm_strs (n := 3) (s17.sq (b := false) hA16) e17, ?_⟩
        have s1117 := (s1115.trans s16).trans s17
        have hL17 := s1117 _ _ hL11
        have hpl17 := ((s8.trans s11).trans s1117) _ _ e27
        have hn17 := (s11.trans s1117).sq hn8
        walk_at "GO"
        refine ⟨p, pl, ns, primes, 18, 98, rfl, hL17, hnb, by omega, by omega, hpl17, by omega, by omega, fun v' d' H18 s18 hv' hno' => ?_⟩
        have hs' := hv'.1
        walk_at "GO"
        refine ⟨.ref an, v', _, d', rfl, hv', .inl ⟨rfl, ⟨an, _, v1, v2, v3, v4, rfl, s18.sq hn17⟩, hno', fun pB H19 s19 hB19 => ?_⟩⟩
        walk_at "GO"
        refine ⟨v', d', rfl, (ROdd.mono _ _ _ _ s19 hv').dp, hs'.ok, hs'.nod, hs'.deep, hs'.size, ?_⟩
        walk_at "GO"
        rename_i pU H20 hpU s20 e20
        refine ⟨_, _, rfl, sm_strs (n := 3) (s20.sq (b := false) hB19) e20, ?_⟩
        walk_at "GO"
        exact ⟨_, rfl, rfl, (((sm.trans s1).trans sA17).trans (s8.trans s11)).trans (((s1117.trans s18).trans s19).trans s20)⟩
    · rintro σ H' ⟨ys, rfl, hys, sm⟩
      walk_at "go"
      exact k _

end
theorem all_mk {l : PySem.W.OpenLaw} {w : World} {K : PySem.W.Frag} {h : Heap} {mg : Str → Option Value} {fa CNet CServeError CInvalidNumber CInvalidLetter CNoHouse CNoRequest CNoRoom CNotAlone CNotHeld CTooLarge KPRIMES fInvalidNumber___init__ fInvalidLetter___init__ fis_between fvector_of fmatrix_of fproduct_sum fNet___init__ fNet_letters PNet_letters fNet_is_letter fNet_rest fNet_times fNet_plus fNet_looked_at fNet_row fL_numbers fL_same fL_vector fL_net fL_dot fL_times fL_row fL_listed fL_odd fL_ask fL_spoilt fL_spoilt_one flaw : Addr} (X : K.In h) (G : h.Ns mainGlobals mg) (hfa : mg "law" = some (.ref fa))
    {odKPRIMES odInvalidNumber___init__ anInvalidNumber___init__ odInvalidLetter___init__ anInvalidLetter___init__ odis_between anis_between odvector_of anvector_of odmatrix_of anmatrix_of odproduct_sum anproduct_sum odNet___init__ anNet___init__ odNet_letters anNet_letters odNet_is_letter anNet_is_letter odNet_rest anNet_rest odNet_times anNet_times odNet_plus anNet_plus odNet_looked_at anNet_looked_at odNet_row anNet_row odL_numbers anL_numbers odL_same anL_same odL_vector anL_vector odL_net anL_net odL_dot anL_dot odL_times anL_times odL_row anL_row odL_listed anL_listed odL_odd anL_odd odL_ask anL_ask odL_spoilt anL_spoilt odL_spoilt_one anL_spoilt_one odlaw anlaw : Option Addr} {slKPRIMES slInvalidNumber___init__ slInvalidLetter___init__ slis_between slvector_of slmatrix_of slproduct_sum slNet___init__ slNet_letters slNet_is_letter slNet_rest slNet_times slNet_plus slNet_looked_at slNet_row slL_numbers slL_same slL_vector slL_net slL_dot slL_times slL_row slL_listed slL_odd slL_ask slL_spoilt slL_spoilt_one sllaw : Array (Option Value)} {ocInvalidNumber___init__ kVInvalidNumber___init__ dcInvalidNumber___init__ pmInvalidNumber___init__ cdInvalidNumber___init__ ctInvalidNumber___init__ ocInvalidLetter___init__ kVInvalidLetter___init__ dcInvalidLetter___init__ pmInvalidLetter___init__ cdInvalidLetter___init__ ctInvalidLetter___init__ ocis_between kVis_between dcis_between pmis_between cdis_between ctis_between ocvector_of kVvector_of dcvector_of pmvector_of cdvector_of ctvector_of ocmatrix_of kVmatrix_of dcmatrix_of pmmatrix_of cdmatrix_of ctmatrix_of ocproduct_sum kVproduct_sum dcproduct_sum pmproduct_sum cdproduct_sum ctproduct_sum ocNet___init__ kVNet___init__ dcNet___init__ pmNet___init__ cdNet___init__ ctNet___init__ ocNet_letters kVNet_letters dcNet_letters pmNet_letters cdNet_letters ctNet_letters ocNet_is_letter kVNet_is_letter dcNet_is_letter pmNet_is_letter cdNet_is_letter ctNet_is_letter ocNet_rest kVNet_rest dcNet_rest pmNet_rest cdNet_rest ctNet_rest ocNet_times kVNet_times dcNet_times pmNet_times cdNet_times ctNet_times ocNet_plus kVNet_plus dcNet_plus pmNet_plus cdNet_plus ctNet_plus ocNet_looked_at kVNet_looked_at dcNet_looked_at pmNet_looked_at cdNet_looked_at ctNet_looked_at ocNet_row kVNet_row dcNet_row pmNet_row cdNet_row ctNet_row ocL_numbers kVL_numbers dcL_numbers pmL_numbers cdL_numbers ctL_numbers ocL_same kVL_same dcL_same pmL_same cdL_same ctL_same ocL_vector kVL_vector dcL_vector pmL_vector cdL_vector ctL_vector ocL_net kVL_net dcL_net pmL_net cdL_net ctL_net ocL_dot kVL_dot dcL_dot pmL_dot cdL_dot ctL_dot ocL_times kVL_times dcL_times pmL_times cdL_times ctL_times ocL_row kVL_row dcL_row pmL_row cdL_row ctL_row ocL_listed kVL_listed dcL_listed pmL_listed cdL_listed ctL_listed ocL_odd kVL_odd dcL_odd pmL_odd cdL_odd ctL_odd ocL_ask kVL_ask dcL_ask pmL_ask cdL_ask ctL_ask ocL_spoilt kVL_spoilt dcL_spoilt pmL_spoilt cdL_spoilt ctL_spoilt ocL_spoilt_one kVL_spoilt_one dcL_spoilt_one pmL_spoilt_one cdL_spoilt_one ctL_spoilt_one oclaw kVlaw dclaw pmlaw cdlaw ctlaw : Value}
    {nmInvalidNumber qnInvalidNumber : Str} {NInvalidNumber : Addr} {bsInvalidNumber subInvalidNumber : List Value} {snInvalidNumber : List Str} {abInvalidNumber : Bool} {colInvalidNumber : Option Bool} {ddInvalidNumber : Option Addr} {m0InvalidNumber m1InvalidNumber m2InvalidNumber m3InvalidNumber m5InvalidNumber : Option Value}
    {nmInvalidLetter qnInvalidLetter : Str} {NInvalidLetter : Addr} {bsInvalidLetter subInvalidLetter : List Value} {snInvalidLetter : List Str} {abInvalidLetter : Bool} {colInvalidLetter : Option Bool} {ddInvalidLetter : Option Addr} {m0InvalidLetter m1InvalidLetter m2InvalidLetter m3InvalidLetter m5InvalidLetter : Option Value}
    (aCNet : PySem.W.nsIn K mainGlobals "Net" = some (some (.ref CNet))) (pgNet : PySem.W.plainGet K CNet Str.empty = true) (hdNet : PySem.W.hasDictIn K CNet = true) (poNet : PySem.W.plainOver K CNet = true) (saNet : PySem.W.findIn K (.ref CNet) "__setattr__" = some (some (.builtin "object.__setattr__"))) (mkNet : PySem.W.makesIn K CNet = true) (kcNet : PySem.W.keepIn K (.ref CNet) = true)
    (nNet_prime : PySem.W.findIn K (.ref CNet) "prime" = some none)
    (nNet_embed : PySem.W.findIn K (.ref CNet) "embed" = some none)
    (nNet_shift : PySem.W.findIn K (.ref CNet) "shift" = some none)
    (nNet_layers : PySem.W.findIn K (.ref CNet) "layers" = some none)
    (nNet_out : PySem.W.findIn K (.ref CNet) "out" = some none)
    (nNet_end : PySem.W.findIn K (.ref CNet) "end" = some none)
    (aCServeError : PySem.W.nsIn K mainGlobals "ServeError" = some (some (.ref CServeError))) (eiServeError : PySem.W.isClsIn K CServeError = true) (etServeError : PySem.W.typeIn K (.ref CServeError) = some (.type "type")) (ebServeError : PySem.W.subIn K (.ref CServeError) (.type "BaseException") = some true) (ehServeError : PySem.W.hasDictIn K CServeError = true)
    (aCInvalidNumber : PySem.W.nsIn K mainGlobals "InvalidNumber" = some (some (.ref CInvalidNumber))) (eiInvalidNumber : PySem.W.isClsIn K CInvalidNumber = true) (etInvalidNumber : PySem.W.typeIn K (.ref CInvalidNumber) = some (.type "type")) (ebInvalidNumber : PySem.W.subIn K (.ref CInvalidNumber) (.type "BaseException") = some true) (ehInvalidNumber : PySem.W.hasDictIn K CInvalidNumber = true)
    (aCInvalidLetter : PySem.W.nsIn K mainGlobals "InvalidLetter" = some (some (.ref CInvalidLetter))) (eiInvalidLetter : PySem.W.isClsIn K CInvalidLetter = true) (etInvalidLetter : PySem.W.typeIn K (.ref CInvalidLetter) = some (.type "type")) (ebInvalidLetter : PySem.W.subIn K (.ref CInvalidLetter) (.type "BaseException") = some true) (ehInvalidLetter : PySem.W.hasDictIn K CInvalidLetter = true)
    (aCNoHouse : PySem.W.nsIn K mainGlobals "NoHouse" = some (some (.ref CNoHouse))) (eiNoHouse : PySem.W.isClsIn K CNoHouse = true) (etNoHouse : PySem.W.typeIn K (.ref CNoHouse) = some (.type "type")) (ebNoHouse : PySem.W.subIn K (.ref CNoHouse) (.type "BaseException") = some true) (ehNoHouse : PySem.W.hasDictIn K CNoHouse = true)
    (aCNoRequest : PySem.W.nsIn K mainGlobals "NoRequest" = some (some (.ref CNoRequest))) (eiNoRequest : PySem.W.isClsIn K CNoRequest = true) (etNoRequest : PySem.W.typeIn K (.ref CNoRequest) = some (.type "type")) (ebNoRequest : PySem.W.subIn K (.ref CNoRequest) (.type "BaseException") = some true) (ehNoRequest : PySem.W.hasDictIn K CNoRequest = true)
    (aCNoRoom : PySem.W.nsIn K mainGlobals "NoRoom" = some (some (.ref CNoRoom))) (eiNoRoom : PySem.W.isClsIn K CNoRoom = true) (etNoRoom : PySem.W.typeIn K (.ref CNoRoom) = some (.type "type")) (ebNoRoom : PySem.W.subIn K (.ref CNoRoom) (.type "BaseException") = some true) (ehNoRoom : PySem.W.hasDictIn K CNoRoom = true)
    (aCNotAlone : PySem.W.nsIn K mainGlobals "NotAlone" = some (some (.ref CNotAlone))) (eiNotAlone : PySem.W.isClsIn K CNotAlone = true) (etNotAlone : PySem.W.typeIn K (.ref CNotAlone) = some (.type "type")) (ebNotAlone : PySem.W.subIn K (.ref CNotAlone) (.type "BaseException") = some true) (ehNotAlone : PySem.W.hasDictIn K CNotAlone = true)
    (aCNotHeld : PySem.W.nsIn K mainGlobals "NotHeld" = some (some (.ref CNotHeld))) (eiNotHeld : PySem.W.isClsIn K CNotHeld = true) (etNotHeld : PySem.W.typeIn K (.ref CNotHeld) = some (.type "type")) (ebNotHeld : PySem.W.subIn K (.ref CNotHeld) (.type "BaseException") = some true) (ehNotHeld : PySem.W.hasDictIn K CNotHeld = true)
    (aCTooLarge : PySem.W.nsIn K mainGlobals "TooLarge" = some (some (.ref CTooLarge))) (eiTooLarge : PySem.W.isClsIn K CTooLarge = true) (etTooLarge : PySem.W.typeIn K (.ref CTooLarge) = some (.type "type")) (ebTooLarge : PySem.W.subIn K (.ref CTooLarge) (.type "BaseException") = some true) (ehTooLarge : PySem.W.hasDictIn K CTooLarge = true)
    (aKPRIMES : PySem.W.nsIn K mainGlobals "PRIMES" = some (some (.ref KPRIMES))) {itKPRIMES : Array Value} {nKPRIMES : Nat} (lKPRIMES : K.lookup KPRIMES = some ⟨.type "tuple", odKPRIMES, .seq itKPRIMES nKPRIMES, slKPRIMES⟩) (vKPRIMES : itKPRIMES.size ≤ sizeLine ∧ Vals [.int 2, .int 3, .int 5, .int 7, .int 11, .int 13, .int 17, .int 19, .int 23, .int 29, .int 31, .int 37, .int 41, .int 43, .int 47, .int 53, .int 59, .int 61, .int 67, .int 71, .int 73, .int 79, .int 83, .int 89, .int 97] itKPRIMES.toList)
    (aInvalidNumber___init__ : PySem.W.findIn K (.ref CInvalidNumber) "__init__" = some (some (.ref fInvalidNumber___init__))) (iInvalidNumber___init__ : PySem.W.isFn K (.ref fInvalidNumber___init__) = true) (lInvalidNumber___init__ : K.lookup fInvalidNumber___init__ = some ⟨ocInvalidNumber___init__, odInvalidNumber___init__, .func (PySem.W.fnOf "__init__" "InvalidNumber.__init__" (defArgs s_InvalidNumber___init__) (defBody s_InvalidNumber___init__) (defScope s_InvalidNumber___init__) .none kVInvalidNumber___init__ dcInvalidNumber___init__ pmInvalidNumber___init__ anInvalidNumber___init__ cdInvalidNumber___init__ ctInvalidNumber___init__), slInvalidNumber___init__⟩) (cInvalidNumber___init__ : PySem.W.codeIn K cdInvalidNumber___init__ "InvalidNumber.__init__" = true) (kInvalidNumber___init__ : PySem.W.keepIn K (.ref fInvalidNumber___init__) = true)
    (aInvalidLetter___init__ : PySem.W.findIn K (.ref CInvalidLetter) "__init__" = some (some (.ref fInvalidLetter___init__))) (iInvalidLetter___init__ : PySem.W.isFn K (.ref fInvalidLetter___init__) = true) (lInvalidLetter___init__ : K.lookup fInvalidLetter___init__ = some ⟨ocInvalidLetter___init__, odInvalidLetter___init__, .func (PySem.W.fnOf "__init__" "InvalidLetter.__init__" (defArgs s_InvalidLetter___init__) (defBody s_InvalidLetter___init__) (defScope s_InvalidLetter___init__) .none kVInvalidLetter___init__ dcInvalidLetter___init__ pmInvalidLetter___init__ anInvalidLetter___init__ cdInvalidLetter___init__ ctInvalidLetter___init__), slInvalidLetter___init__⟩) (cInvalidLetter___init__ : PySem.W.codeIn K cdInvalidLetter___init__ "InvalidLetter.__init__" = true) (kInvalidLetter___init__ : PySem.W.keepIn K (.ref fInvalidLetter___init__) = true)
    (ais_between : PySem.W.nsIn K mainGlobals "is_between" = some (some (.ref fis_between))) (lis_between : K.lookup fis_between = some ⟨ocis_between, odis_between, .func (PySem.W.fnOf "is_between" "is_between" (defArgs s_is_between) (defBody s_is_between) (defScope s_is_between) .none kVis_between dcis_between pmis_between anis_between cdis_between ctis_between), slis_between⟩) (cis_between : PySem.W.codeIn K cdis_between "is_between" = true) (kis_between : PySem.W.keepIn K (.ref fis_between) = true)
    (avector_of : PySem.W.nsIn K mainGlobals "vector_of" = some (some (.ref fvector_of))) (lvector_of : K.lookup fvector_of = some ⟨ocvector_of, odvector_of, .func (PySem.W.fnOf "vector_of" "vector_of" (defArgs s_vector_of) (defBody s_vector_of) (defScope s_vector_of) .none kVvector_of dcvector_of pmvector_of anvector_of cdvector_of ctvector_of), slvector_of⟩) (cvector_of : PySem.W.codeIn K cdvector_of "vector_of" = true) (kvector_of : PySem.W.keepIn K (.ref fvector_of) = true)
    (amatrix_of : PySem.W.nsIn K mainGlobals "matrix_of" = some (some (.ref fmatrix_of))) (lmatrix_of : K.lookup fmatrix_of = some ⟨ocmatrix_of, odmatrix_of, .func (PySem.W.fnOf "matrix_of" "matrix_of" (defArgs s_matrix_of) (defBody s_matrix_of) (defScope s_matrix_of) .none kVmatrix_of dcmatrix_of pmmatrix_of anmatrix_of cdmatrix_of ctmatrix_of), slmatrix_of⟩) (cmatrix_of : PySem.W.codeIn K cdmatrix_of "matrix_of" = true) (kmatrix_of : PySem.W.keepIn K (.ref fmatrix_of) = true)
    (aproduct_sum : PySem.W.nsIn K mainGlobals "product_sum" = some (some (.ref fproduct_sum))) (lproduct_sum : K.lookup fproduct_sum = some ⟨ocproduct_sum, odproduct_sum, .func (PySem.W.fnOf "product_sum" "product_sum" (defArgs s_product_sum) (defBody s_product_sum) (defScope s_product_sum) .none kVproduct_sum dcproduct_sum pmproduct_sum anproduct_sum cdproduct_sum ctproduct_sum), slproduct_sum⟩) (cproduct_sum : PySem.W.codeIn K cdproduct_sum "product_sum" = true) (kproduct_sum : PySem.W.keepIn K (.ref fproduct_sum) = true)
    (aNet___init__ : PySem.W.findIn K (.ref CNet) "__init__" = some (some (.ref fNet___init__))) (iNet___init__ : PySem.W.isFn K (.ref fNet___init__) = true) (lNet___init__ : K.lookup fNet___init__ = some ⟨ocNet___init__, odNet___init__, .func (PySem.W.fnOf "__init__" "Net.__init__" (defArgs s_Net___init__) (defBody s_Net___init__) (defScope s_Net___init__) .none kVNet___init__ dcNet___init__ pmNet___init__ anNet___init__ cdNet___init__ ctNet___init__), slNet___init__⟩) (cNet___init__ : PySem.W.codeIn K cdNet___init__ "Net.__init__" = true) (kNet___init__ : PySem.W.keepIn K (.ref fNet___init__) = true)
    (aNet_letters : PySem.W.findIn K (.ref CNet) "letters" = some (some (.ref PNet_letters))) (iNet_letters : PySem.W.specialIn K (.ref PNet_letters) "__get__" = some (some (.builtin "property.__get__"))) (tNet_letters : PySem.W.takesIn K (.ref PNet_letters) = some true) (rNet_letters : ∃ rest, PySem.W.recIn K PNet_letters "property" = some (.ref fNet_letters :: rest)) (lNet_letters : K.lookup fNet_letters = some ⟨ocNet_letters, odNet_letters, .func (PySem.W.fnOf "letters" "Net.letters" (defArgs s_Net_letters) (defBody s_Net_letters) (defScope s_Net_letters) .none kVNet_letters dcNet_letters pmNet_letters anNet_letters cdNet_letters ctNet_letters), slNet_letters⟩) (cNet_letters : PySem.W.codeIn K cdNet_letters "Net.letters" = true) (kNet_letters : PySem.W.keepIn K (.ref fNet_letters) = true)
    (aNet_is_letter : PySem.W.findIn K (.ref CNet) "is_letter" = some (some (.ref fNet_is_letter))) (iNet_is_letter : PySem.W.isFn K (.ref fNet_is_letter) = true) (lNet_is_letter : K.lookup fNet_is_letter = some ⟨ocNet_is_letter, odNet_is_letter, .func (PySem.W.fnOf "is_letter" "Net.is_letter" (defArgs s_Net_is_letter) (defBody s_Net_is_letter) (defScope s_Net_is_letter) .none kVNet_is_letter dcNet_is_letter pmNet_is_letter anNet_is_letter cdNet_is_letter ctNet_is_letter), slNet_is_letter⟩) (cNet_is_letter : PySem.W.codeIn K cdNet_is_letter "Net.is_letter" = true) (kNet_is_letter : PySem.W.keepIn K (.ref fNet_is_letter) = true)
    (aNet_rest : PySem.W.findIn K (.ref CNet) "rest" = some (some (.ref fNet_rest))) (iNet_rest : PySem.W.isFn K (.ref fNet_rest) = true) (lNet_rest : K.lookup fNet_rest = some ⟨ocNet_rest, odNet_rest, .func (PySem.W.fnOf "rest" "Net.rest" (defArgs s_Net_rest) (defBody s_Net_rest) (defScope s_Net_rest) .none kVNet_rest dcNet_rest pmNet_rest anNet_rest cdNet_rest ctNet_rest), slNet_rest⟩) (cNet_rest : PySem.W.codeIn K cdNet_rest "Net.rest" = true) (kNet_rest : PySem.W.keepIn K (.ref fNet_rest) = true)
    (aNet_times : PySem.W.findIn K (.ref CNet) "times" = some (some (.ref fNet_times))) (iNet_times : PySem.W.isFn K (.ref fNet_times) = true) (lNet_times : K.lookup fNet_times = some ⟨ocNet_times, odNet_times, .func (PySem.W.fnOf "times" "Net.times" (defArgs s_Net_times) (defBody s_Net_times) (defScope s_Net_times) .none kVNet_times dcNet_times pmNet_times anNet_times cdNet_times ctNet_times), slNet_times⟩) (cNet_times : PySem.W.codeIn K cdNet_times "Net.times" = true) (kNet_times : PySem.W.keepIn K (.ref fNet_times) = true)
    (aNet_plus : PySem.W.findIn K (.ref CNet) "plus" = some (some (.ref fNet_plus))) (iNet_plus : PySem.W.isFn K (.ref fNet_plus) = true) (lNet_plus : K.lookup fNet_plus = some ⟨ocNet_plus, odNet_plus, .func (PySem.W.fnOf "plus" "Net.plus" (defArgs s_Net_plus) (defBody s_Net_plus) (defScope s_Net_plus) .none kVNet_plus dcNet_plus pmNet_plus anNet_plus cdNet_plus ctNet_plus), slNet_plus⟩) (cNet_plus : PySem.W.codeIn K cdNet_plus "Net.plus" = true) (kNet_plus : PySem.W.keepIn K (.ref fNet_plus) = true)
    (aNet_looked_at : PySem.W.findIn K (.ref CNet) "looked_at" = some (some (.ref fNet_looked_at))) (iNet_looked_at : PySem.W.isFn K (.ref fNet_looked_at) = true) (lNet_looked_at : K.lookup fNet_looked_at = some ⟨ocNet_looked_at, odNet_looked_at, .func (PySem.W.fnOf "looked_at" "Net.looked_at" (defArgs s_Net_looked_at) (defBody s_Net_looked_at) (defScope s_Net_looked_at) .none kVNet_looked_at dcNet_looked_at pmNet_looked_at anNet_looked_at cdNet_looked_at ctNet_looked_at), slNet_looked_at⟩) (cNet_looked_at : PySem.W.codeIn K cdNet_looked_at "Net.looked_at" = true) (kNet_looked_at : PySem.W.keepIn K (.ref fNet_looked_at) = true)
    (aNet_row : PySem.W.findIn K (.ref CNet) "row" = some (some (.ref fNet_row))) (iNet_row : PySem.W.isFn K (.ref fNet_row) = true) (lNet_row : K.lookup fNet_row = some ⟨ocNet_row, odNet_row, .func (PySem.W.fnOf "row" "Net.row" (defArgs s_Net_row) (defBody s_Net_row) (defScope s_Net_row) .none kVNet_row dcNet_row pmNet_row anNet_row cdNet_row ctNet_row), slNet_row⟩) (cNet_row : PySem.W.codeIn K cdNet_row "Net.row" = true) (kNet_row : PySem.W.keepIn K (.ref fNet_row) = true)
    (aL_numbers : PySem.W.nsIn K mainGlobals "_law_numbers" = some (some (.ref fL_numbers))) (lL_numbers : K.lookup fL_numbers = some ⟨ocL_numbers, odL_numbers, .func (PySem.W.fnOf "_law_numbers" "_law_numbers" (defArgs s_L_numbers) (defBody s_L_numbers) (defScope s_L_numbers) .none kVL_numbers dcL_numbers pmL_numbers anL_numbers cdL_numbers ctL_numbers), slL_numbers⟩) (cL_numbers : PySem.W.codeIn K cdL_numbers "_law_numbers" = true) (kL_numbers : PySem.W.keepIn K (.ref fL_numbers) = true)
    (aL_same : PySem.W.nsIn K mainGlobals "_law_same" = some (some (.ref fL_same))) (lL_same : K.lookup fL_same = some ⟨ocL_same, odL_same, .func (PySem.W.fnOf "_law_same" "_law_same" (defArgs s_L_same) (defBody s_L_same) (defScope s_L_same) .none kVL_same dcL_same pmL_same anL_same cdL_same ctL_same), slL_same⟩) (cL_same : PySem.W.codeIn K cdL_same "_law_same" = true) (kL_same : PySem.W.keepIn K (.ref fL_same) = true)
    (aL_vector : PySem.W.nsIn K mainGlobals "_law_vector" = some (some (.ref fL_vector))) (lL_vector : K.lookup fL_vector = some ⟨ocL_vector, odL_vector, .func (PySem.W.fnOf "_law_vector" "_law_vector" (defArgs s_L_vector) (defBody s_L_vector) (defScope s_L_vector) .none kVL_vector dcL_vector pmL_vector anL_vector cdL_vector ctL_vector), slL_vector⟩) (cL_vector : PySem.W.codeIn K cdL_vector "_law_vector" = true) (kL_vector : PySem.W.keepIn K (.ref fL_vector) = true)
    (aL_net : PySem.W.nsIn K mainGlobals "_law_net" = some (some (.ref fL_net))) (lL_net : K.lookup fL_net = some ⟨ocL_net, odL_net, .func (PySem.W.fnOf "_law_net" "_law_net" (defArgs s_L_net) (defBody s_L_net) (defScope s_L_net) .none kVL_net dcL_net pmL_net anL_net cdL_net ctL_net), slL_net⟩) (cL_net : PySem.W.codeIn K cdL_net "_law_net" = true) (kL_net : PySem.W.keepIn K (.ref fL_net) = true)
    (aL_dot : PySem.W.nsIn K mainGlobals "_law_dot" = some (some (.ref fL_dot))) (lL_dot : K.lookup fL_dot = some ⟨ocL_dot, odL_dot, .func (PySem.W.fnOf "_law_dot" "_law_dot" (defArgs s_L_dot) (defBody s_L_dot) (defScope s_L_dot) .none kVL_dot dcL_dot pmL_dot anL_dot cdL_dot ctL_dot), slL_dot⟩) (cL_dot : PySem.W.codeIn K cdL_dot "_law_dot" = true) (kL_dot : PySem.W.keepIn K (.ref fL_dot) = true)
    (aL_times : PySem.W.nsIn K mainGlobals "_law_times" = some (some (.ref fL_times))) (lL_times : K.lookup fL_times = some ⟨ocL_times, odL_times, .func (PySem.W.fnOf "_law_times" "_law_times" (defArgs s_L_times) (defBody s_L_times) (defScope s_L_times) .none kVL_times dcL_times pmL_times anL_times cdL_times ctL_times), slL_times⟩) (cL_times : PySem.W.codeIn K cdL_times "_law_times" = true) (kL_times : PySem.W.keepIn K (.ref fL_times) = true)
    (aL_row : PySem.W.nsIn K mainGlobals "_law_row" = some (some (.ref fL_row))) (lL_row : K.lookup fL_row = some ⟨ocL_row, odL_row, .func (PySem.W.fnOf "_law_row" "_law_row" (defArgs s_L_row) (defBody s_L_row) (defScope s_L_row) .none kVL_row dcL_row pmL_row anL_row cdL_row ctL_row), slL_row⟩) (cL_row : PySem.W.codeIn K cdL_row "_law_row" = true) (kL_row : PySem.W.keepIn K (.ref fL_row) = true)
    (aL_listed : PySem.W.nsIn K mainGlobals "_law_listed" = some (some (.ref fL_listed))) (lL_listed : K.lookup fL_listed = some ⟨ocL_listed, odL_listed, .func (PySem.W.fnOf "_law_listed" "_law_listed" (defArgs s_L_listed) (defBody s_L_listed) (defScope s_L_listed) .none kVL_listed dcL_listed pmL_listed anL_listed cdL_listed ctL_listed), slL_listed⟩) (cL_listed : PySem.W.codeIn K cdL_listed "_law_listed" = true) (kL_listed : PySem.W.keepIn K (.ref fL_listed) = true)
    (aL_odd : PySem.W.nsIn K mainGlobals "_law_odd" = some (some (.ref fL_odd))) (lL_odd : K.lookup fL_odd = some ⟨ocL_odd, odL_odd, .func (PySem.W.fnOf "_law_odd" "_law_odd" (defArgs s_L_odd) (defBody s_L_odd) (defScope s_L_odd) .none kVL_odd dcL_odd pmL_odd anL_odd cdL_odd ctL_odd), slL_odd⟩) (cL_odd : PySem.W.codeIn K cdL_odd "_law_odd" = true) (kL_odd : PySem.W.keepIn K (.ref fL_odd) = true)
    (aL_ask : PySem.W.nsIn K mainGlobals "_law_ask" = some (some (.ref fL_ask))) (lL_ask : K.lookup fL_ask = some ⟨ocL_ask, odL_ask, .func (PySem.W.fnOf "_law_ask" "_law_ask" (defArgs s_L_ask) (defBody s_L_ask) (defScope s_L_ask) .none kVL_ask dcL_ask pmL_ask anL_ask cdL_ask ctL_ask), slL_ask⟩) (cL_ask : PySem.W.codeIn K cdL_ask "_law_ask" = true) (kL_ask : PySem.W.keepIn K (.ref fL_ask) = true)
    (aL_spoilt : PySem.W.nsIn K mainGlobals "_law_spoilt" = some (some (.ref fL_spoilt))) (lL_spoilt : K.lookup fL_spoilt = some ⟨ocL_spoilt, odL_spoilt, .func (PySem.W.fnOf "_law_spoilt" "_law_spoilt" (defArgs s_L_spoilt) (defBody s_L_spoilt) (defScope s_L_spoilt) .none kVL_spoilt dcL_spoilt pmL_spoilt anL_spoilt cdL_spoilt ctL_spoilt), slL_spoilt⟩) (cL_spoilt : PySem.W.codeIn K cdL_spoilt "_law_spoilt" = true) (kL_spoilt : PySem.W.keepIn K (.ref fL_spoilt) = true)
    (aL_spoilt_one : PySem.W.nsIn K mainGlobals "_law_spoilt_one" = some (some (.ref fL_spoilt_one))) (lL_spoilt_one : K.lookup fL_spoilt_one = some ⟨ocL_spoilt_one, odL_spoilt_one, .func (PySem.W.fnOf "_law_spoilt_one" "_law_spoilt_one" (defArgs s_L_spoilt_one) (defBody s_L_spoilt_one) (defScope s_L_spoilt_one) .none kVL_spoilt_one dcL_spoilt_one pmL_spoilt_one anL_spoilt_one cdL_spoilt_one ctL_spoilt_one), slL_spoilt_one⟩) (cL_spoilt_one : PySem.W.codeIn K cdL_spoilt_one "_law_spoilt_one" = true) (kL_spoilt_one : PySem.W.keepIn K (.ref fL_spoilt_one) = true)
    (alaw : PySem.W.nsIn K mainGlobals "law" = some (some (.ref flaw))) (llaw : K.lookup flaw = some ⟨oclaw, odlaw, .func (PySem.W.fnOf "law" "law" (defArgs s_law) (defBody s_law) (defScope s_law) .none kVlaw dclaw pmlaw anlaw cdlaw ctlaw), sllaw⟩) (claw : PySem.W.codeIn K cdlaw "law" = true) (klaw : PySem.W.keepIn K (.ref flaw) = true)
    (xlInvalidNumber : K.lookup CInvalidNumber = some (PySem.excClassObj nmInvalidNumber qnInvalidNumber CInvalidNumber NInvalidNumber bsInvalidNumber [.ref CServeError, .type "ValueError", .type "Exception", .type "BaseException", .type "object"] true snInvalidNumber subInvalidNumber abInvalidNumber colInvalidNumber ddInvalidNumber m0InvalidNumber m1InvalidNumber m2InvalidNumber m3InvalidNumber m5InvalidNumber "ValueError.__new__")) (xaInvalidNumber : PySem.W.findIn K (.ref CInvalidNumber) "__setattr__" = some (some (.builtin "object.__setattr__"))) (xkInvalidNumber : PySem.W.keepIn K (.ref CInvalidNumber) = true) (xtInvalidNumber : PySem.W.typeIn K (.ref fInvalidNumber___init__) = some (.type "function")) (xnInvalidNumber : PySem.W.findIn K (.ref CInvalidNumber) "number" = some none) (xgInvalidNumber : PySem.W.findIn K (.ref CInvalidNumber) "__getattribute__" = some (some (.builtin "BaseException.__getattribute__"))) (xhInvalidNumber : PySem.W.findIn K (.ref CInvalidNumber) "__getattr__" = some none) (xcInvalidNumber : PySem.W.findIn K (.ref CInvalidNumber) "__class__" = some (some (.builtin "object.__class__"))) (xsInvalidNumber : PySem.W.specialIn K (.builtin "object.__class__") "__get__" = some (some (.builtin "getset_descriptor.__get__"))) (xuInvalidNumber : PySem.W.takesIn K (.builtin "object.__class__") = some true) (xmInvalidNumber : PySem.W.mroIn K CInvalidNumber (.type "object") = some true) (xvInvalidNumber : PySem.W.subIn K (.ref CInvalidNumber) (.type "ValueError") = some true)
    (suInvalidNumber_ServeError : PySem.W.subIn K (.ref CInvalidNumber) (.ref CServeError) = some true)
    (suInvalidNumber_InvalidNumber : PySem.W.subIn K (.ref CInvalidNumber) (.ref CInvalidNumber) = some true)
    (suInvalidNumber_InvalidLetter : PySem.W.subIn K (.ref CInvalidNumber) (.ref CInvalidLetter) = some false)
    (suInvalidNumber_NoHouse : PySem.W.subIn K (.ref CInvalidNumber) (.ref CNoHouse) = some false)
    (suInvalidNumber_NoRequest : PySem.W.subIn K (.ref CInvalidNumber) (.ref CNoRequest) = some false)
    (suInvalidNumber_NoRoom : PySem.W.subIn K (.ref CInvalidNumber) (.ref CNoRoom) = some false)
    (suInvalidNumber_NotAlone : PySem.W.subIn K (.ref CInvalidNumber) (.ref CNotAlone) = some false)
    (suInvalidNumber_NotHeld : PySem.W.subIn K (.ref CInvalidNumber) (.ref CNotHeld) = some false)
    (suInvalidNumber_TooLarge : PySem.W.subIn K (.ref CInvalidNumber) (.ref CTooLarge) = some false)
    (xlInvalidLetter : K.lookup CInvalidLetter = some (PySem.excClassObj nmInvalidLetter qnInvalidLetter CInvalidLetter NInvalidLetter bsInvalidLetter [.ref CServeError, .type "ValueError", .type "Exception", .type "BaseException", .type "object"] true snInvalidLetter subInvalidLetter abInvalidLetter colInvalidLetter ddInvalidLetter m0InvalidLetter m1InvalidLetter m2InvalidLetter m3InvalidLetter m5InvalidLetter "ValueError.__new__")) (xaInvalidLetter : PySem.W.findIn K (.ref CInvalidLetter) "__setattr__" = some (some (.builtin "object.__setattr__"))) (xkInvalidLetter : PySem.W.keepIn K (.ref CInvalidLetter) = true) (xtInvalidLetter : PySem.W.typeIn K (.ref fInvalidLetter___init__) = some (.type "function")) (xnInvalidLetter : PySem.W.findIn K (.ref CInvalidLetter) "letter" = some none) (xgInvalidLetter : PySem.W.findIn K (.ref CInvalidLetter) "__getattribute__" = some (some (.builtin "BaseException.__getattribute__"))) (xhInvalidLetter : PySem.W.findIn K (.ref CInvalidLetter) "__getattr__" = some none) (xcInvalidLetter : PySem.W.findIn K (.ref CInvalidLetter) "__class__" = some (some (.builtin "object.__class__"))) (xsInvalidLetter : PySem.W.specialIn K (.builtin "object.__class__") "__get__" = some (some (.builtin "getset_descriptor.__get__"))) (xuInvalidLetter : PySem.W.takesIn K (.builtin "object.__class__") = some true) (xmInvalidLetter : PySem.W.mroIn K CInvalidLetter (.type "object") = some true) (xvInvalidLetter : PySem.W.subIn K (.ref CInvalidLetter) (.type "ValueError") = some true)
    (suInvalidLetter_ServeError : PySem.W.subIn K (.ref CInvalidLetter) (.ref CServeError) = some true)
    (suInvalidLetter_InvalidNumber : PySem.W.subIn K (.ref CInvalidLetter) (.ref CInvalidNumber) = some false)
    (suInvalidLetter_InvalidLetter : PySem.W.subIn K (.ref CInvalidLetter) (.ref CInvalidLetter) = some true)
    (suInvalidLetter_NoHouse : PySem.W.subIn K (.ref CInvalidLetter) (.ref CNoHouse) = some false)
    (suInvalidLetter_NoRequest : PySem.W.subIn K (.ref CInvalidLetter) (.ref CNoRequest) = some false)
    (suInvalidLetter_NoRoom : PySem.W.subIn K (.ref CInvalidLetter) (.ref CNoRoom) = some false)
    (suInvalidLetter_NotAlone : PySem.W.subIn K (.ref CInvalidLetter) (.ref CNotAlone) = some false)
    (suInvalidLetter_NotHeld : PySem.W.subIn K (.ref CInvalidLetter) (.ref CNotHeld) = some false)
    (suInvalidLetter_TooLarge : PySem.W.subIn K (.ref CInvalidLetter) (.ref CTooLarge) = some false)
    (zValueError : PySem.W.nsIn K mainGlobals "ValueError" = some none)
    (zabs : PySem.W.nsIn K mainGlobals "abs" = some none)
    (zbool : PySem.W.nsIn K mainGlobals "bool" = some none)
    (zenumerate : PySem.W.nsIn K mainGlobals "enumerate" = some none)
    (zint : PySem.W.nsIn K mainGlobals "int" = some none)
    (zisinstance : PySem.W.nsIn K mainGlobals "isinstance" = some none)
    (zlen : PySem.W.nsIn K mainGlobals "len" = some none)
    (zlist : PySem.W.nsIn K mainGlobals "list" = some none)
    (zmin : PySem.W.nsIn K mainGlobals "min" = some none)
    (zrange : PySem.W.nsIn K mainGlobals "range" = some none)
    (zrepr : PySem.W.nsIn K mainGlobals "repr" = some none)
    (zstr : PySem.W.nsIn K mainGlobals "str" = some none)
    (ztuple : PySem.W.nsIn K mainGlobals "tuple" = some none)
    (zzip : PySem.W.nsIn K mainGlobals "zip" = some none)
    : ∃ fd : FuncData, (∀ (s : Shared) (v : Value), BindsTo s fd ⟨[v], []⟩ [("_law_script", v)]) ∧ ∀ base : Heap, K.In base → base.Ns mainGlobals mg → FnG l.prog w K mg base CX0 7 fa fd ["_law_script"] (sp_law K) := by
  have e := hfa.symm.trans (PySem.W.mg_of X G alaw)
  cases e
  have FInvalidNumber___init__ := fun_mk (st := s_InvalidNumber___init__) lInvalidNumber___init__ cInvalidNumber___init__ kInvalidNumber___init__
  have bInvalidNumber___init__ := FInvalidNumber___init__.binds (ps := ["self", "number"]) fun _ _ _ _ _ _ us hl => match us, hl with | [_, _], _ => rfl
  have FInvalidLetter___init__ := fun_mk (st := s_InvalidLetter___init__) lInvalidLetter___init__ cInvalidLetter___init__ kInvalidLetter___init__
  have bInvalidLetter___init__ := FInvalidLetter___init__.binds (ps := ["self", "letter"]) fun _ _ _ _ _ _ us hl => match us, hl with | [_, _], _ => rfl
  have Fis_between := fun_mk (st := s_is_between) lis_between cis_between kis_between
  have bis_between := Fis_between.binds (ps := ["value", "least", "most"]) fun _ _ _ _ _ _ us hl => match us, hl with | [_, _, _], _ => rfl
  have Fvector_of := fun_mk (st := s_vector_of) lvector_of cvector_of kvector_of
  have bvector_of := Fvector_of.binds (ps := ["numbers"]) fun _ _ _ _ _ _ us hl => match us, hl with | [_], _ => rfl
  have Fmatrix_of := fun_mk (st := s_matrix_of) lmatrix_of cmatrix_of kmatrix_of
  have bmatrix_of := Fmatrix_of.binds (ps := ["rows"]) fun _ _ _ _ _ _ us hl => match us, hl with | [_], _ => rfl
  have Fproduct_sum := fun_mk (st := s_product_sum) lproduct_sum cproduct_sum kproduct_sum
  have bproduct_sum := Fproduct_sum.binds (ps := ["one", "two"]) fun _ _ _ _ _ _ us hl => match us, hl with | [_, _], _ => rfl
  have FNet___init__ := fun_mk (st := s_Net___init__) lNet___init__ cNet___init__ kNet___init__
  have bNet___init__ := FNet___init__.binds (ps := ["self", "prime", "embed", "shift", "layers", "out", "end"]) fun _ _ _ _ _ _ us hl => match us, hl with | [_, _, _, _, _, _, _], _ => rfl
  have FNet_letters := fun_mk (st := s_Net_letters) lNet_letters cNet_letters kNet_letters
  have bNet_letters := FNet_letters.binds (ps := ["self"]) fun _ _ _ _ _ _ us hl => match us, hl with | [_], _ => rfl
  have FNet_is_letter := fun_mk (st := s_Net_is_letter) lNet_is_letter cNet_is_letter kNet_is_letter
  have bNet_is_letter := FNet_is_letter.binds (ps := ["self", "value"]) fun _ _ _ _ _ _ us hl => match us, hl with | [_, _], _ => rfl
  have FNet_rest := fun_mk (st := s_Net_rest) lNet_rest cNet_rest kNet_rest
  have bNet_rest := FNet_rest.binds (ps := ["self", "number"]) fun _ _ _ _ _ _ us hl => match us, hl with | [_, _], _ => rfl
  have FNet_times := fun_mk (st := s_Net_times) lNet_times cNet_times kNet_times
  have bNet_times := FNet_times.binds (ps := ["self", "matrix", "vector"]) fun _ _ _ _ _ _ us hl => match us, hl with | [_, _, _], _ => rfl
  have FNet_plus := fun_mk (st := s_Net_plus) lNet_plus cNet_plus kNet_plus
  have bNet_plus := FNet_plus.binds (ps := ["self", "one", "two"]) fun _ _ _ _ _ _ us hl => match us, hl with | [_, _, _], _ => rfl
  have FNet_looked_at := fun_mk (st := s_Net_looked_at) lNet_looked_at cNet_looked_at kNet_looked_at
  have bNet_looked_at := FNet_looked_at.binds (ps := ["self", "query", "pairs"]) fun _ _ _ _ _ _ us hl => match us, hl with | [_, _, _], _ => rfl
  have FNet_row := fun_mk (st := s_Net_row) lNet_row cNet_row kNet_row
  have bNet_row := FNet_row.binds (ps := ["self", "rows", "letter"]) fun _ _ _ _ _ _ us hl => match us, hl with | [_, _, _], _ => rfl
  have FL_numbers := fun_mk (st := s_L_numbers) lL_numbers cL_numbers kL_numbers
  have bL_numbers := FL_numbers.binds (ps := ["_law_cell", "_law_at", "_law_many"]) fun _ _ _ _ _ _ us hl => match us, hl with | [_, _, _], _ => rfl
  have FL_same := fun_mk (st := s_L_same) lL_same cL_same kL_same
  have bL_same := FL_same.binds (ps := ["_law_actual", "_law_expected"]) fun _ _ _ _ _ _ us hl => match us, hl with | [_, _], _ => rfl
  have FL_vector := fun_mk (st := s_L_vector) lL_vector cL_vector kL_vector
  have bL_vector := FL_vector.binds (ps := ["_law_numbers_here", "_law_at", "_law_width", "_law_prime"]) fun _ _ _ _ _ _ us hl => match us, hl with | [_, _, _, _], _ => rfl
  have FL_net := fun_mk (st := s_L_net) lL_net cL_net kL_net
  have bL_net := FL_net.binds (ps := ["_law_numbers_here", "_law_letters", "_law_width", "_law_many", "_law_prime"]) fun _ _ _ _ _ _ us hl => match us, hl with | [_, _, _, _, _], _ => rfl
  have FL_dot := fun_mk (st := s_L_dot) lL_dot cL_dot kL_dot
  have bL_dot := FL_dot.binds (ps := ["_law_one", "_law_other", "_law_prime"]) fun _ _ _ _ _ _ us hl => match us, hl with | [_, _, _], _ => rfl
  have FL_times := fun_mk (st := s_L_times) lL_times cL_times kL_times
  have bL_times := FL_times.binds (ps := ["_law_matrix", "_law_vector_here", "_law_prime"]) fun _ _ _ _ _ _ us hl => match us, hl with | [_, _, _], _ => rfl
  have FL_row := fun_mk (st := s_L_row) lL_row cL_row kL_row
  have bL_row := FL_row.binds (ps := ["_law_net_here", "_law_rows", "_law_letter"]) fun _ _ _ _ _ _ us hl => match us, hl with | [_, _, _], _ => rfl
  have FL_listed := fun_mk (st := s_L_listed) lL_listed cL_listed kL_listed
  have bL_listed := FL_listed.binds (ps := ["_law_value"]) fun _ _ _ _ _ _ us hl => match us, hl with | [_], _ => rfl
  have FL_odd := fun_mk (st := s_L_odd) lL_odd cL_odd kL_odd
  have bL_odd := FL_odd.binds (ps := ["_law_numbers_here", "_law_k", "_law_good", "_law_most"]) fun _ _ _ _ _ _ us hl => match us, hl with | [_, _, _, _], _ => rfl
  have FL_ask := fun_mk (st := s_L_ask) lL_ask cL_ask kL_ask
  have bL_ask := FL_ask.binds (ps := ["_law_net_here", "_law_word", "_law_value"]) fun _ _ _ _ _ _ us hl => match us, hl with | [_, _, _], _ => rfl
  have FL_spoilt := fun_mk (st := s_L_spoilt) lL_spoilt cL_spoilt kL_spoilt
  have bL_spoilt := FL_spoilt.binds (ps := ["_law_listed_here"]) fun _ _ _ _ _ _ us hl => match us, hl with | [_], _ => rfl
  have FL_spoilt_one := fun_mk (st := s_L_spoilt_one) lL_spoilt_one cL_spoilt_one kL_spoilt_one
  have bL_spoilt_one := FL_spoilt_one.binds (ps := ["_law_row_here"]) fun _ _ _ _ _ _ us hl => match us, hl with | [_], _ => rfl
  have Flaw := fun_mk (st := s_law) llaw claw klaw
  have blaw := Flaw.binds (ps := ["_law_script"]) fun _ _ _ _ _ _ us hl => match us, hl with | [_], _ => rfl
  let T : Txt K mg := { c_Net := _, C_Net := ⟨pgNet, hdNet, poNet, saNet⟩, gc_Net := PySem.W.mg_of X G aCNet, n_Net_prime := nNet_prime, n_Net_embed := nNet_embed, n_Net_shift := nNet_shift, n_Net_layers := nNet_layers, n_Net_out := nNet_out, n_Net_end := nNet_end, c_ServeError := _, gc_ServeError := PySem.W.mg_of X G aCServeError, er_ServeError := ⟨eiServeError, etServeError, ebServeError, ehServeError⟩, c_InvalidNumber := _, gc_InvalidNumber := PySem.W.mg_of X G aCInvalidNumber, er_InvalidNumber := ⟨eiInvalidNumber, etInvalidNumber, ebInvalidNumber, ehInvalidNumber⟩, c_InvalidLetter := _, gc_InvalidLetter := PySem.W.mg_of X G aCInvalidLetter, er_InvalidLetter := ⟨eiInvalidLetter, etInvalidLetter, ebInvalidLetter, ehInvalidLetter⟩, c_NoHouse := _, gc_NoHouse := PySem.W.mg_of X G aCNoHouse, er_NoHouse := ⟨eiNoHouse, etNoHouse, ebNoHouse, ehNoHouse⟩, c_NoRequest := _, gc_NoRequest := PySem.W.mg_of X G aCNoRequest, er_NoRequest := ⟨eiNoRequest, etNoRequest, ebNoRequest, ehNoRequest⟩, c_NoRoom := _, gc_NoRoom := PySem.W.mg_of X G aCNoRoom, er_NoRoom := ⟨eiNoRoom, etNoRoom, ebNoRoom, ehNoRoom⟩, c_NotAlone := _, gc_NotAlone := PySem.W.mg_of X G aCNotAlone, er_NotAlone := ⟨eiNotAlone, etNotAlone, ebNotAlone, ehNotAlone⟩, c_NotHeld := _, gc_NotHeld := PySem.W.mg_of X G aCNotHeld, er_NotHeld := ⟨eiNotHeld, etNotHeld, ebNotHeld, ehNotHeld⟩, c_TooLarge := _, gc_TooLarge := PySem.W.mg_of X G aCTooLarge, er_TooLarge := ⟨eiTooLarge, etTooLarge, ebTooLarge, ehTooLarge⟩, k_PRIMES := _, gk_PRIMES := PySem.W.mg_of X G aKPRIMES, tk_PRIMES := fun _ => .inr ⟨_, itKPRIMES, nKPRIMES, lKPRIMES, rfl, rfl, vKPRIMES.1, vKPRIMES.2⟩, a_InvalidNumber___init__ := _, d_InvalidNumber___init__ := _, F_InvalidNumber___init__ := FInvalidNumber___init__, b_InvalidNumber___init__ := bInvalidNumber___init__, a_InvalidLetter___init__ := _, d_InvalidLetter___init__ := _, F_InvalidLetter___init__ := FInvalidLetter___init__, b_InvalidLetter___init__ := bInvalidLetter___init__, a_is_between := _, d_is_between := _, F_is_between := Fis_between, b_is_between := bis_between, g_is_between := PySem.W.mg_of X G ais_between, a_vector_of := _, d_vector_of := _, F_vector_of := Fvector_of, b_vector_of := bvector_of, g_vector_of := PySem.W.mg_of X G avector_of, a_matrix_of := _, d_matrix_of := _, F_matrix_of := Fmatrix_of, b_matrix_of := bmatrix_of, g_matrix_of := PySem.W.mg_of X G amatrix_of, a_product_sum := _, d_product_sum := _, F_product_sum := Fproduct_sum, b_product_sum := bproduct_sum, g_product_sum := PySem.W.mg_of X G aproduct_sum, a_Net___init__ := _, d_Net___init__ := _, F_Net___init__ := FNet___init__, b_Net___init__ := bNet___init__, M_Net := ⟨mkNet, aNet___init__, iNet___init__, kcNet⟩, a_Net_letters := _, d_Net_letters := _, F_Net_letters := FNet_letters, b_Net_letters := bNet_letters, p_Net_letters := _, P_Net_letters := ⟨aNet_letters, iNet_letters, tNet_letters, rNet_letters⟩, a_Net_is_letter := _, d_Net_is_letter := _, F_Net_is_letter := FNet_is_letter, b_Net_is_letter := bNet_is_letter, m_Net_is_letter := ⟨aNet_is_letter, iNet_is_letter, kNet_is_letter⟩, a_Net_rest := _, d_Net_rest := _, F_Net_rest := FNet_rest, b_Net_rest := bNet_rest, m_Net_rest := ⟨aNet_rest, iNet_rest, kNet_rest⟩, a_Net_times := _, d_Net_times := _, F_Net_times := FNet_times, b_Net_times := bNet_times, m_Net_times := ⟨aNet_times, iNet_times, kNet_times⟩, a_Net_plus := _, d_Net_plus := _, F_Net_plus := FNet_plus, b_Net_plus := bNet_plus, m_Net_plus := ⟨aNet_plus, iNet_plus, kNet_plus⟩, a_Net_looked_at := _, d_Net_looked_at := _, F_Net_looked_at := FNet_looked_at, b_Net_looked_at := bNet_looked_at, m_Net_looked_at := ⟨aNet_looked_at, iNet_looked_at, kNet_looked_at⟩, a_Net_row := _, d_Net_row := _, F_Net_row := FNet_row, b_Net_row := bNet_row, m_Net_row := ⟨aNet_row, iNet_row, kNet_row⟩, a_L_numbers := _, d_L_numbers := _, F_L_numbers := FL_numbers, b_L_numbers := bL_numbers, g_L_numbers := PySem.W.mg_of X G aL_numbers, a_L_same := _, d_L_same := _, F_L_same := FL_same, b_L_same := bL_same, g_L_same := PySem.W.mg_of X G aL_same, a_L_vector := _, d_L_vector := _, F_L_vector := FL_vector, b_L_vector := bL_vector, g_L_vector := PySem.W.mg_of X G aL_vector, a_L_net := _, d_L_net := _, F_L_net := FL_net, b_L_net := bL_net, g_L_net := PySem.W.mg_of X G aL_net, a_L_dot := _, d_L_dot := _, F_L_dot := FL_dot, b_L_dot := bL_dot, g_L_dot := PySem.W.mg_of X G aL_dot, a_L_times := _, d_L_times := _, F_L_times := FL_times, b_L_times := bL_times, g_L_times := PySem.W.mg_of X G aL_times, a_L_row := _, d_L_row := _, F_L_row := FL_row, b_L_row := bL_row, g_L_row := PySem.W.mg_of X G aL_row, a_L_listed := _, d_L_listed := _, F_L_listed := FL_listed, b_L_listed := bL_listed, g_L_listed := PySem.W.mg_of X G aL_listed, a_L_odd := _, d_L_odd := _, F_L_odd := FL_odd, b_L_odd := bL_odd, g_L_odd := PySem.W.mg_of X G aL_odd, a_L_ask := _, d_L_ask := _, F_L_ask := FL_ask, b_L_ask := bL_ask, g_L_ask := PySem.W.mg_of X G aL_ask, a_L_spoilt := _, d_L_spoilt := _, F_L_spoilt := FL_spoilt, b_L_spoilt := bL_spoilt, g_L_spoilt := PySem.W.mg_of X G aL_spoilt, a_L_spoilt_one := _, d_L_spoilt_one := _, F_L_spoilt_one := FL_spoilt_one, b_L_spoilt_one := bL_spoilt_one, g_L_spoilt_one := PySem.W.mg_of X G aL_spoilt_one, a_law := _, d_law := _, F_law := Flaw, b_law := blaw, g_law := PySem.W.mg_of X G alaw, ox_InvalidNumber := ⟨⟨_, _, _, _, _, _, _, _, _, _, _, _, _, _, _, xlInvalidNumber, rfl⟩, xaInvalidNumber, ebInvalidNumber, etInvalidNumber, xkInvalidNumber⟩, ic_InvalidNumber := aInvalidNumber___init__, ti_InvalidNumber := xtInvalidNumber, nf_InvalidNumber := xnInvalidNumber, xf_InvalidNumber := ⟨xgInvalidNumber, xhInvalidNumber, ebInvalidNumber, ehInvalidNumber⟩, ec_InvalidNumber := ⟨xgInvalidNumber, xhInvalidNumber, ebInvalidNumber, ehInvalidNumber, xcInvalidNumber, xsInvalidNumber, xuInvalidNumber, xmInvalidNumber⟩, sv_InvalidNumber := xvInvalidNumber, sub_InvalidNumber_ServeError := suInvalidNumber_ServeError, sub_InvalidNumber_InvalidNumber := suInvalidNumber_InvalidNumber, sub_InvalidNumber_InvalidLetter := suInvalidNumber_InvalidLetter, sub_InvalidNumber_NoHouse := suInvalidNumber_NoHouse, sub_InvalidNumber_NoRequest := suInvalidNumber_NoRequest, sub_InvalidNumber_NoRoom := suInvalidNumber_NoRoom, sub_InvalidNumber_NotAlone := suInvalidNumber_NotAlone, sub_InvalidNumber_NotHeld := suInvalidNumber_NotHeld, sub_InvalidNumber_TooLarge := suInvalidNumber_TooLarge, ox_InvalidLetter := ⟨⟨_, _, _, _, _, _, _, _, _, _, _, _, _, _, _, xlInvalidLetter, rfl⟩, xaInvalidLetter, ebInvalidLetter, etInvalidLetter, xkInvalidLetter⟩, ic_InvalidLetter := aInvalidLetter___init__, ti_InvalidLetter := xtInvalidLetter, nf_InvalidLetter := xnInvalidLetter, xf_InvalidLetter := ⟨xgInvalidLetter, xhInvalidLetter, ebInvalidLetter, ehInvalidLetter⟩, ec_InvalidLetter := ⟨xgInvalidLetter, xhInvalidLetter, ebInvalidLetter, ehInvalidLetter, xcInvalidLetter, xsInvalidLetter, xuInvalidLetter, xmInvalidLetter⟩, sv_InvalidLetter := xvInvalidLetter, sub_InvalidLetter_ServeError := suInvalidLetter_ServeError, sub_InvalidLetter_InvalidNumber := suInvalidLetter_InvalidNumber, sub_InvalidLetter_InvalidLetter := suInvalidLetter_InvalidLetter, sub_InvalidLetter_NoHouse := suInvalidLetter_NoHouse, sub_InvalidLetter_NoRequest := suInvalidLetter_NoRequest, sub_InvalidLetter_NoRoom := suInvalidLetter_NoRoom, sub_InvalidLetter_NotAlone := suInvalidLetter_NotAlone, sub_InvalidLetter_NotHeld := suInvalidLetter_NotHeld, sub_InvalidLetter_TooLarge := suInvalidLetter_TooLarge, z_ValueError := PySem.W.mg_none_of X G zValueError, z_abs := PySem.W.mg_none_of X G zabs, z_bool := PySem.W.mg_none_of X G zbool, z_enumerate := PySem.W.mg_none_of X G zenumerate, z_int := PySem.W.mg_none_of X G zint, z_isinstance := PySem.W.mg_none_of X G zisinstance, z_len := PySem.W.mg_none_of X G zlen, z_list := PySem.W.mg_none_of X G zlist, z_min := PySem.W.mg_none_of X G zmin, z_range := PySem.W.mg_none_of X G zrange, z_repr := PySem.W.mg_none_of X G zrepr, z_str := PySem.W.mg_none_of X G zstr, z_tuple := PySem.W.mg_none_of X G ztuple, z_zip := PySem.W.mg_none_of X G zzip }
  exact ⟨_, fun s v => .of_eq rfl, fun base _ _ => ok_law (P := l.prog) (w := w) (base := base) T⟩
theorem walk {l : PySem.W.OpenLaw} {q : Program} {loose : List Str} {XP : (Str → Option Value) → Heap → Prop} {YP : World → Heap → Prop} {d : DefRec} {K : Params → PySem.W.Frag} (hn : l.most = some 63) (hdf : d.params.defaults = [])
    (hY : ∀ (w : World) (h : Heap), YP w h → (K w.params).In h)
    (F : ∀ (w : World) (mg : Str → Option Value) (fa : Addr) (h : Heap), (K w.params).In h → h.Ns mainGlobals mg → mg d.name = some (.ref fa) →
      ∃ fd : FuncData, (∀ (s : Shared) (u : Value), BindsTo s fd ⟨[u], []⟩ [("_law_script", u)]) ∧ ∀ base : Heap, (K w.params).In base → base.Ns mainGlobals mg → FnG l.prog w (K w.params) mg base CX0 7 fa fd ["_law_script"] (sp_law (K w.params))) :
    PySem.W.WalkO q loose XP YP l.row.toRowW d [] (fun f vs => PySem.call f vs) :=
  L2.walk_ofG (n := 63) (k := 7) (x := "_law_script") (CX := fun _ => CX0) (sp := fun w => sp_law (K w.params)) hn (by decide) hdf ⟨rfl, by decide, by decide⟩ hY F (fun _ _ a ns hl _ hS => ⟨a, ns, rfl, hS, hl, fun _ => rfl⟩) fun _ _ _ _ _ z => z
end My

open PySem PySem.W PyProof.Rows
set_option maxRecDepth 100000 in
set_option maxHeartbeats 0 in
theorem PySem.Challenge.cw_servedalone_k01_rows_of_a_net_holds : PySem.Challenge.rw_servedalone_k01_rows_of_a_net.Holds := by
  w_on; o_law; k_head; (case hw => w_witness2)
  k_fill
  refine My.walk (l := PySem.Challenge.rw_servedalone_k01_rows_of_a_net) rfl rfl (fun w h Y => PySem.W.kIn_of Y) ?F
  case F =>
    intro w mg fa h KX G hmg
    refine' My.all_mk KX G hmg ?aCNet ?pgNet ?hdNet ?poNet ?saNet ?mkNet ?kcNet ?nNet_prime ?nNet_embed ?nNet_shift ?nNet_layers ?nNet_out ?nNet_end ?aCServeError ?eiServeError ?etServeError ?ebServeError ?ehServeError ?aCInvalidNumber ?eiInvalidNumber ?etInvalidNumber ?ebInvalidNumber ?ehInvalidNumber ?aCInvalidLetter ?eiInvalidLetter ?etInvalidLetter ?ebInvalidLetter ?ehInvalidLetter ?aCNoHouse ?eiNoHouse ?etNoHouse ?ebNoHouse ?ehNoHouse ?aCNoRequest ?eiNoRequest ?etNoRequest ?ebNoRequest ?ehNoRequest ?aCNoRoom ?eiNoRoom ?etNoRoom ?ebNoRoom ?ehNoRoom ?aCNotAlone ?eiNotAlone ?etNotAlone ?ebNotAlone ?ehNotAlone ?aCNotHeld ?eiNotHeld ?etNotHeld ?ebNotHeld ?ehNotHeld ?aCTooLarge ?eiTooLarge ?etTooLarge ?ebTooLarge ?ehTooLarge ?aKPRIMES ?lKPRIMES ?vKPRIMES ?aInvalidNumber___init__ ?iInvalidNumber___init__ ?lInvalidNumber___init__ ?cInvalidNumber___init__ ?kInvalidNumber___init__ ?aInvalidLetter___init__ ?iInvalidLetter___init__ ?lInvalidLetter___init__ ?cInvalidLetter___init__ ?kInvalidLetter___init__ ?ais_between ?lis_between ?cis_between ?kis_between ?avector_of ?lvector_of ?cvector_of ?kvector_of ?amatrix_of ?lmatrix_of ?cmatrix_of ?kmatrix_of ?aproduct_sum ?lproduct_sum ?cproduct_sum ?kproduct_sum ?aNet___init__ ?iNet___init__ ?lNet___init__ ?cNet___init__ ?kNet___init__ ?aNet_letters ?iNet_letters ?tNet_letters ?rNet_letters ?lNet_letters ?cNet_letters ?kNet_letters ?aNet_is_letter ?iNet_is_letter ?lNet_is_letter ?cNet_is_letter ?kNet_is_letter ?aNet_rest ?iNet_rest ?lNet_rest ?cNet_rest ?kNet_rest ?aNet_times ?iNet_times ?lNet_times ?cNet_times ?kNet_times ?aNet_plus ?iNet_plus ?lNet_plus ?cNet_plus ?kNet_plus ?aNet_looked_at ?iNet_looked_at ?lNet_looked_at ?cNet_looked_at ?kNet_looked_at ?aNet_row ?iNet_row ?lNet_row ?cNet_row ?kNet_row ?aL_numbers ?lL_numbers ?cL_numbers ?kL_numbers ?aL_same ?lL_same ?cL_same ?kL_same ?aL_vector ?lL_vector ?cL_vector ?kL_vector ?aL_net ?lL_net ?cL_net ?kL_net ?aL_dot ?lL_dot ?cL_dot ?kL_dot ?aL_times ?lL_times ?cL_times ?kL_times ?aL_row ?lL_row ?cL_row ?kL_row ?aL_listed ?lL_listed ?cL_listed ?kL_listed ?aL_odd ?lL_odd ?cL_odd ?kL_odd ?aL_ask ?lL_ask ?cL_ask ?kL_ask ?aL_spoilt ?lL_spoilt ?cL_spoilt ?kL_spoilt ?aL_spoilt_one ?lL_spoilt_one ?cL_spoilt_one ?kL_spoilt_one ?alaw ?llaw ?claw ?klaw ?xlInvalidNumber ?xaInvalidNumber ?xkInvalidNumber ?xtInvalidNumber ?xnInvalidNumber ?xgInvalidNumber ?xhInvalidNumber ?xcInvalidNumber ?xsInvalidNumber ?xuInvalidNumber ?xmInvalidNumber ?xvInvalidNumber ?suInvalidNumber_ServeError ?suInvalidNumber_InvalidNumber ?suInvalidNumber_InvalidLetter ?suInvalidNumber_NoHouse ?suInvalidNumber_NoRequest ?suInvalidNumber_NoRoom ?suInvalidNumber_NotAlone ?suInvalidNumber_NotHeld ?suInvalidNumber_TooLarge ?xlInvalidLetter ?xaInvalidLetter ?xkInvalidLetter ?xtInvalidLetter ?xnInvalidLetter ?xgInvalidLetter ?xhInvalidLetter ?xcInvalidLetter ?xsInvalidLetter ?xuInvalidLetter ?xmInvalidLetter ?xvInvalidLetter ?suInvalidLetter_ServeError ?suInvalidLetter_InvalidNumber ?suInvalidLetter_InvalidLetter ?suInvalidLetter_NoHouse ?suInvalidLetter_NoRequest ?suInvalidLetter_NoRoom ?suInvalidLetter_NotAlone ?suInvalidLetter_NotHeld ?suInvalidLetter_TooLarge ?zValueError ?zabs ?zbool ?zenumerate ?zint ?zisinstance ?zlen ?zlist ?zmin ?zrange ?zrepr ?zstr ?ztuple ?zzip
    (case aCNet => k_is)
    (case pgNet => k_is)
    (case hdNet => k_is)
    (case poNet => k_is)
    (case saNet => k_is)
    (case mkNet => k_is)
    (case kcNet => k_is)
    (case nNet_prime => k_is)
    (case nNet_embed => k_is)
    (case nNet_shift => k_is)
    (case nNet_layers => k_is)
    (case nNet_out => k_is)
    (case nNet_end => k_is)
    (case aCServeError => k_is)
    (case eiServeError => k_is)
    (case etServeError => k_is)
    (case ebServeError => k_is)
    (case ehServeError => k_is)
    (case aCInvalidNumber => k_is)
    (case eiInvalidNumber => k_is)
    (case etInvalidNumber => k_is)
    (case ebInvalidNumber => k_is)
    (case ehInvalidNumber => k_is)
    (case aCInvalidLetter => k_is)
    (case eiInvalidLetter => k_is)
    (case etInvalidLetter => k_is)
    (case ebInvalidLetter => k_is)
    (case ehInvalidLetter => k_is)
    (case aCNoHouse => k_is)
    (case eiNoHouse => k_is)
    (case etNoHouse => k_is)
    (case ebNoHouse => k_is)
    (case ehNoHouse => k_is)
    (case aCNoRequest => k_is)
    (case eiNoRequest => k_is)
    (case etNoRequest => k_is)
    (case ebNoRequest => k_is)
    (case ehNoRequest => k_is)
    (case aCNoRoom => k_is)
    (case eiNoRoom => k_is)
    (case etNoRoom => k_is)
    (case ebNoRoom => k_is)
    (case ehNoRoom => k_is)
    (case aCNotAlone => k_is)
    (case eiNotAlone => k_is)
    (case etNotAlone => k_is)
    (case ebNotAlone => k_is)
    (case ehNotAlone => k_is)
    (case aCNotHeld => k_is)
    (case eiNotHeld => k_is)
    (case etNotHeld => k_is)
    (case ebNotHeld => k_is)
    (case ehNotHeld => k_is)
    (case aCTooLarge => k_is)
    (case eiTooLarge => k_is)
    (case etTooLarge => k_is)
    (case ebTooLarge => k_is)
    (case ehTooLarge => k_is)
    (case aKPRIMES => k_is)
    (case lKPRIMES => k_is)
    (case vKPRIMES => refine ⟨by decide, ?_⟩; repeat (first | exact Paired.nil | refine Paired.cons ⟨_, rfl⟩ ?_))
    (case aInvalidNumber___init__ => k_is)
    (case iInvalidNumber___init__ => k_is)
    (case lInvalidNumber___init__ => k_is)
    (case cInvalidNumber___init__ => k_is)
    (case kInvalidNumber___init__ => k_is)
    (case aInvalidLetter___init__ => k_is)
    (case iInvalidLetter___init__ => k_is)
    (case lInvalidLetter___init__ => k_is)
    (case cInvalidLetter___init__ => k_is)
    (case kInvalidLetter___init__ => k_is)
    (case ais_between => k_is)
    (case lis_between => k_is)
    (case cis_between => k_is)
    (case kis_between => k_is)
    (case avector_of => k_is)
    (case lvector_of => k_is)
    (case cvector_of => k_is)
    (case kvector_of => k_is)
    (case amatrix_of => k_is)
    (case lmatrix_of => k_is)
    (case cmatrix_of => k_is)
    (case kmatrix_of => k_is)
    (case aproduct_sum => k_is)
    (case lproduct_sum => k_is)
    (case cproduct_sum => k_is)
    (case kproduct_sum => k_is)
    (case aNet___init__ => k_is)
    (case iNet___init__ => k_is)
    (case lNet___init__ => k_is)
    (case cNet___init__ => k_is)
    (case kNet___init__ => k_is)
    (case aNet_letters => k_is)
    (case iNet_letters => k_is)
    (case tNet_letters => k_is)
    (case rNet_letters => exact ⟨_, by k_is⟩)
    (case lNet_letters => k_is)
    (case cNet_letters => k_is)
    (case kNet_letters => k_is)
    (case aNet_is_letter => k_is)
    (case iNet_is_letter => k_is)
    (case lNet_is_letter => k_is)
    (case cNet_is_letter => k_is)
    (case kNet_is_letter => k_is)
    (case aNet_rest => k_is)
    (case iNet_rest => k_is)
    (case lNet_rest => k_is)
    (case cNet_rest => k_is)
    (case kNet_rest => k_is)
    (case aNet_times => k_is)
    (case iNet_times => k_is)
    (case lNet_times => k_is)
    (case cNet_times => k_is)
    (case kNet_times => k_is)
    (case aNet_plus => k_is)
    (case iNet_plus => k_is)
    (case lNet_plus => k_is)
    (case cNet_plus => k_is)
    (case kNet_plus => k_is)
    (case aNet_looked_at => k_is)
    (case iNet_looked_at => k_is)
    (case lNet_looked_at => k_is)
    (case cNet_looked_at => k_is)
    (case kNet_looked_at => k_is)
    (case aNet_row => k_is)
    (case iNet_row => k_is)
    (case lNet_row => k_is)
    (case cNet_row => k_is)
    (case kNet_row => k_is)
    (case aL_numbers => k_is)
    (case lL_numbers => k_is)
    (case cL_numbers => k_is)
    (case kL_numbers => k_is)
    (case aL_same => k_is)
    (case lL_same => k_is)
    (case cL_same => k_is)
    (case kL_same => k_is)
    (case aL_vector => k_is)
    (case lL_vector => k_is)
    (case cL_vector => k_is)
    (case kL_vector => k_is)
    (case aL_net => k_is)
    (case lL_net => k_is)
    (case cL_net => k_is)
    (case kL_net => k_is)
    (case aL_dot => k_is)
    (case lL_dot => k_is)
    (case cL_dot => k_is)
    (case kL_dot => k_is)
    (case aL_times => k_is)
    (case lL_times => k_is)
    (case cL_times => k_is)
    (case kL_times => k_is)
    (case aL_row => k_is)
    (case lL_row => k_is)
    (case cL_row => k_is)
    (case kL_row => k_is)
    (case aL_listed => k_is)
    (case lL_listed => k_is)
    (case cL_listed => k_is)
    (case kL_listed => k_is)
    (case aL_odd => k_is)
    (case lL_odd => k_is)
    (case cL_odd => k_is)
    (case kL_odd => k_is)
    (case aL_ask => k_is)
    (case lL_ask => k_is)
    (case cL_ask => k_is)
    (case kL_ask => k_is)
    (case aL_spoilt => k_is)
    (case lL_spoilt => k_is)
    (case cL_spoilt => k_is)
    (case kL_spoilt => k_is)
    (case aL_spoilt_one => k_is)
    (case lL_spoilt_one => k_is)
    (case cL_spoilt_one => k_is)
    (case kL_spoilt_one => k_is)
    (case alaw => k_is)
    (case llaw => k_is)
    (case claw => k_is)
    (case klaw => k_is)
    (case xlInvalidNumber => k_is)
    (case xaInvalidNumber => k_is)
    (case xkInvalidNumber => k_is)
    (case xtInvalidNumber => k_is)
    (case xnInvalidNumber => k_is)
    (case xgInvalidNumber => k_is)
    (case xhInvalidNumber => k_is)
    (case xcInvalidNumber => k_is)
    (case xsInvalidNumber => k_is)
    (case xuInvalidNumber => k_is)
    (case xmInvalidNumber => k_is)
    (case xvInvalidNumber => k_is)
    (case suInvalidNumber_ServeError => k_is)
    (case suInvalidNumber_InvalidNumber => k_is)
    (case suInvalidNumber_InvalidLetter => k_is)
    (case suInvalidNumber_NoHouse => k_is)
    (case suInvalidNumber_NoRequest => k_is)
    (case suInvalidNumber_NoRoom => k_is)
    (case suInvalidNumber_NotAlone => k_is)
    (case suInvalidNumber_NotHeld => k_is)
    (case suInvalidNumber_TooLarge => k_is)
    (case xlInvalidLetter => k_is)
    (case xaInvalidLetter => k_is)
    (case xkInvalidLetter => k_is)
    (case xtInvalidLetter => k_is)
    (case xnInvalidLetter => k_is)
    (case xgInvalidLetter => k_is)
    (case xhInvalidLetter => k_is)
    (case xcInvalidLetter => k_is)
    (case xsInvalidLetter => k_is)
    (case xuInvalidLetter => k_is)
    (case xmInvalidLetter => k_is)
    (case xvInvalidLetter => k_is)
    (case suInvalidLetter_ServeError => k_is)
    (case suInvalidLetter_InvalidNumber => k_is)
    (case suInvalidLetter_InvalidLetter => k_is)
    (case suInvalidLetter_NoHouse => k_is)
    (case suInvalidLetter_NoRequest => k_is)
    (case suInvalidLetter_NoRoom => k_is)
    (case suInvalidLetter_NotAlone => k_is)
    (case suInvalidLetter_NotHeld => k_is)
    (case suInvalidLetter_TooLarge => k_is)
    (case zValueError => k_is)
    (case zabs => k_is)
    (case zbool => k_is)
    (case zenumerate => k_is)
    (case zint => k_is)
    (case zisinstance => k_is)
    (case zlen => k_is)
    (case zlist => k_is)
    (case zmin => k_is)
    (case zrange => k_is)
    (case zrepr => k_is)
    (case zstr => k_is)
    (case ztuple => k_is)
    (case zzip => k_is)
#print axioms PySem.Challenge.cw_servedalone_k01_rows_of_a_net_holds
