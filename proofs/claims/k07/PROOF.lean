import PyProof.Rows.All
import Wide.All
import OpenK.AllK
import Wide.FinOn
import HandS.ForMost
import HandS.Walk
import HandS.IsInst
import HandS.Evl
import HandS.Property
import HandS.Conv
import HandS.TupAny
import HandS.MakeKwOnly
import HandS.Defaults
import HandS.ExcInit
import HandS.ExcField
import HandS.ExcIs
import HandS.ExcOwn
import HandS.WordsExc
import HandS.RaiseMore
import HandS.HotCalls
import PyProof.ReprRoads
import PyProof.ReprBulk
import PyProof.InstNe
import KE.KTupSum
import KE.GoesMore
import KE.GoesEnum
import KE.GoesZip
import PySem.Challenge.RW_servedalone_k07_whole_what_the_net_write
set_option Elab.async false
set_option linter.all false
set_option maxRecDepth 100000
set_option maxHeartbeats 4000000
namespace L2
open PySem PySem.Spec PyProof.Rows

/-! ### own rules: either of two readings; sums, enumerate and walks of lists or tuples -/
theorem PI.or {X : Cx} {tg iter : Expr} {w1 w2 : TI} (h1 : PI X tg iter w1) (h2 : PI X tg iter w2) : PI X tg iter (fun σ H R => w1 σ H R ∨ w2 σ H R) := by
  refine ⟨fun pins s σ H R I h => ?_⟩
  rcases h with h | h
  · exact h1.run pins s σ H R I h
  · exact h2.run pins s σ H R I h

section
variable {X : Cx}
def rAddG (K : PySem.W.Frag) : R2 := fun x y H Q => (rI0 fun i j => .int (i + j)) x y H Q ∨ rCatT K x y H Q ∨ rCat x y H Q
theorem op_addG : OpR X (binaryOp .Add) (rAddG X.K) := op_add.or (op_catT.or op_cat)
def rEqG (K : PySem.W.Frag) : R2 := fun x y H Q => rEq x y H Q ∨ rEqD K x y H Q
def rNeG (K : PySem.W.Frag) : R2 := fun x y H Q => rNe x y H Q ∨ rNeD K x y H Q
theorem op_eqG (hu : X.A.units + 64 < cLine) : OpR X (compareOp .Eq) (rEqG X.K) := op_eq.or (op_eqD hu)
theorem op_neG (hu : X.A.units + 64 < cLine) : OpR X (compareOp .NotEq) (rNeG X.K) := op_ne.or (op_neD hu)
def rSlG (K : PySem.W.Frag) : V → Option Int → Option Int → Hp → VK → Prop := fun x lo hi H Q => rSlL K x lo hi H Q ∨ rSlA K x lo hi H Q
theorem sl_seqG : SlR X (rSlG X.K) := sl_list.or sl_tupA
def rSumS (K : PySem.W.Frag) : List V → Hp → VK → Prop := fun vs H Q => ∃ (a : Addr) (ns : List Int), vs = [V.ref a] ∧ (SqL K H a (ns.map V.int) ∨ SqT K H a (ns.map V.int)) ∧ Q (.int ns.sum) H
theorem cr_sumS (hc : X.calm = true) : CallR X (.builtin "sum") (rSumS X.K) := by
  intro pins s σ H vs us Q I r h
  obtain ⟨a, ns, rfl, hs, q⟩ := h
  rw [Vals.ref1 r]
  rcases hs with hs | hs
  · obtain ⟨its, rv, hl, _⟩ := I.list hs
    exact sum_raw (I.ok.hd hc) hl.isList rv.ints fun h' tk t' hk => ⟨.int _, H, I.kept hk, ⟨_, rfl⟩, q⟩
  · obtain ⟨its, rv, ht, _⟩ := I.tuple hs
    have hi := rv.ints
    obtain ⟨xs, e⟩ := hi.allInts.items
    have hn : numsOf (intItems xs).toList = ns := by rw [← e]; exact hi.numsOf
    rw [nums_intItems] at hn
    have ht' : s.heap.IsTuple a its.toArray := ht
    rw [e] at ht'
    refine PySem.W.ktm_sumG (I.ok.hd hc) ht' fun h' tk t' hk => ⟨.int ns.sum, H, I.kept hk, ⟨t', ?_⟩, q⟩
    rw [preSum_eq, List.take_of_length_le (by simp), hn]

end

/-! ### enumerate(tuple) -/
def IteT (K : PySem.W.Frag) (a : Addr) : It :=
  ⟨fun i H => ∃ (xs : List V) (x : V), SqT K H a xs ∧ xs[i]? = some x, fun i H v H' => ∃ T x, v = .ref T ∧ H T = none ∧ H' = upd H T (.tup [.int (i : Nat), x]) ∧ ∀ xs, SqT K H a xs → xs[i]? = some x, fun i H => ∃ xs : List V, SqT K H a xs ∧ xs.length ≤ i⟩
theorem tup_ne_iter {h : Heap} {a it : Addr} {items : Array Value} {i : Nat} (p : IsTup h a items) (q : h.IsTupleIter it a i) : a ≠ it := by
  obtain ⟨o, ho, hc, _⟩ := p
  obtain ⟨o', ho', hc', _⟩ := q
  intro e
  subst e
  rw [ho] at ho'
  cases ho'
  rw [hc] at hc'
  exact absurd hc' (by decide)
theorem meets_enumerate_newT (l : Addr) (items : Array Value) :
    Meets (Builtin.«enumerate.__new__» ⟨[.type "enumerate", .ref l], []⟩) (fun _ R s => s.heap.IsTuple l items ∧
      R (.ok (.ret (.ref (s.heap.push { cls := .type "tuple_iterator", data := .fields #[.ref l, .int 0 0] }).objs.size)))
        { s with heap := (s.heap.push { cls := .type "tuple_iterator", data := .fields #[.ref l, .int 0 0] }).push { cls := .type "enumerate", data := .fields #[.none, .bool false, .ref s.heap.objs.size, rawInt 0, .none, .none] } }) :=
  .of_wp fun prog w A R s h => by
    obtain ⟨hp, g, d, tk, os⟩ := s; obtain ⟨h1, h⟩ := h
    have hsub := sub_enumerate
    have q1 : ∀ {A' : Around} {E : Value → Shared → Prop} {Q : Value → Shared → Prop}, Q (.ref hp.objs.size) ⟨hp.push { cls := .type "tuple_iterator", data := .fields #[.ref l, .int 0 0] }, g, d, tk, os⟩ → wpAny (model prog w) A' (pyIter (.ref l)) Q E ⟨hp, g, d, tk, os⟩ :=
      fun q => wpAny_pyIter_tuple (s := ⟨hp, g, d, tk, os⟩) h1 q
    wp_walk using q1
    refine wpAny_stack_any fun st => wpAny_pure ?_
    split
    · rename_i c _ _ _ _ _
      cases (c == Value.type "enumerate")
      · wp_walk using q1
        exact ⟨_, rfl, h⟩
      · wp_walk using q1
        exact ⟨_, rfl, h⟩
    · wp_walk using q1
      exact ⟨_, rfl, h⟩
theorem call_enumerate_tup {prog : Program} {w : World} {A : Around} {E : Value → Shared → Prop} {s : Shared} {l : Addr} {items : Array Value} {Q : Value → Shared → Prop} (hL : s.heap.IsTuple l items)
    (h : ∀ h', IsEnum h' (s.heap.objs.size + 1) s.heap.objs.size 0 .none → h'.IsTupleIter s.heap.objs.size l 0 → h'.objs.size = s.heap.objs.size + 2 →
      (∀ b o, s.heap.get? b = some o → h'.get? b = some o) → Q (.ref (s.heap.objs.size + 1)) { s with heap := h' }) :
    wpAny (model prog w) A (call (.type "enumerate") [.ref l]) Q E s := by
  refine callType_new F.called_enumerate (by decide) (F.typeCall_enumerate_1 _) (F.newCall_enumerate_1 _) (fun obj => F.args_object_init_2 obj _) F.entry_enumerate_new
    (meets_enumerate_newT l items) ⟨hL, ?_⟩
  have hz : (s.heap.push { cls := .type "tuple_iterator", data := .fields #[.ref l, .int 0 0] }).objs.size = s.heap.objs.size + 1 := Heap.size_push ..
  show _ ∧ _
  rw [hz]
  have he : IsEnum ((s.heap.push { cls := .type "tuple_iterator", data := .fields #[.ref l, .int 0 0] }).push
      { cls := .type "enumerate", data := .fields #[.none, .bool false, .ref s.heap.objs.size, rawInt 0, .none, .none] }) (s.heap.objs.size + 1) s.heap.objs.size 0 .none := by
    have := Heap.get?_push_size (s.heap.push { cls := .type "tuple_iterator", data := .fields #[.ref l, .int 0 0] })
      (o := { cls := .type "enumerate", data := .fields #[.none, .bool false, .ref s.heap.objs.size, rawInt 0, .none, .none] }) rfl
    rw [hz] at this; exact this
  refine ⟨⟨_, he, rfl⟩, h _ he ⟨_, Heap.get?_push_of_some _ (Heap.get?_push_size _ rfl), rfl, rfl⟩ (by rw [Heap.size_push, hz]) fun b o x => Heap.get?_push_of_some _ (Heap.get?_push_of_some _ x)⟩
theorem turn_enumT {P : Program} {w : World} {K : PySem.W.Frag} {elts : List Expr} {kk : Nat} {tpos : Pos} (a e it : Addr) :
    Turn P w K (.Tuple elts kk tpos) (IteT K a) [e, it] e (fun i h => (∃ old, IsEnum h e it ((i : Nat) : Int) old) ∧ h.IsTupleIter it a i ∧ e ≠ it) where
  mem := by simp
  obj := fun i h st b hb => by
    obtain ⟨⟨old, he⟩, ⟨o, ho, hc, hd⟩, _⟩ := st
    have e' : b = e ∨ b = it := by simpa using hb
    rcases e' with z | z
    · rw [z]; exact ⟨_, he, fun v q => nomatch q⟩
    · rw [z]; exact ⟨o, ho, fun v q => by rw [hd] at q; cases q⟩
  keep := fun i h h' st k => let ⟨⟨old, he⟩, hi, hne⟩ := st; ⟨⟨old, k e (by simp) _ he⟩, hi.at fun o q => k it (by simp) o q, hne⟩
  item := by
    intro X hP hw hK hc i pins s σ H E I hf st hg
    subst hP hw hK
    obtain ⟨⟨old, he⟩, hit, hne⟩ := st
    obtain ⟨xs, x, hq, hx⟩ := hg
    obtain ⟨its, rv, p, hz⟩ := I.tuple hq
    obtain ⟨u, hu, ru⟩ := rv.get hx
    have hai : a ≠ it := tup_ne_iter p hit
    have hel : e < s.heap.objs.size := Heap.lt_size he
    have hil : it < s.heap.objs.size := by obtain ⟨_, q, _⟩ := hit; exact Heap.lt_size q
    have hal : a < s.heap.objs.size := by obtain ⟨_, q, _⟩ := p; exact Heap.lt_size q
    have hae : e ≠ a := by
      obtain ⟨o, ho, hcl, _⟩ := id p
      intro z
      rw [← z, he] at ho
      cases ho
      have hcl' : (Value.type "enumerate") = Value.type "tuple" := hcl
      exact absurd hcl' (by decide)
    have hlt : i < its.toArray.size := by
      have h1 := (List.getElem?_eq_some_iff.mp hu).1
      simpa using h1
    refine wpAny_pyNext_enum_itemD (Draws.tuple (prog := X.prog) (w := X.w) (A := X.A.in1) (show X.A.in1.handled = none from I.ok.hd hc) it a hai its.toArray) he ⟨hit, p⟩ hlt hne (by simp [hne, hae]) fun y h' tk hP ho st' hT hsz hk => ?_
    have ey : y = u := by
      have h1 : its.toArray[i]? = some y := hP
      have h2 : its.toArray[i]? = some u := by simpa using hu
      rw [h1] at h2
      exact Option.some.inj h2
    subst ey
    refine ⟨_, rfl, wpAny_letOwnedTupleGo_enum (s := { s with heap := h', toks := tk + 1 }) ho fun h'' he' sb => ?_⟩
    have hT2 : h''.get? s.heap.objs.size = some { cls := .type "tuple", data := .seq #[.int i tk, y] } := (sb.2 _ (Nat.ne_of_gt hel)).trans hT
    have new : ObjOk X.prog X.w (upd H s.heap.objs.size (.tup [.int (i : Nat), x])) h'' s.heap.objs.size (.tup [.int (i : Nat), x]) :=
      ⟨by show 2 ≤ sizeLine; decide, [.int i tk, y], .cons ⟨_, rfl⟩ (.cons ru .nil), ⟨_, hT2, rfl, _, rfl⟩⟩
    have I1 : Inv X pins σ (upd H s.heap.objs.size (.tup [.int (i : Nat), x])) { s with heap := h'', toks := tk + 1 } :=
      I.turnedNew (t' := tk + 1) (ch := [e, it]) (fun b ob hb q => (sb.2 b (fun z => hb (by simp [z]))).trans (hk b ob (fun z => hb (by simp [z])) (fun z => hb (by simp [z])) q)) hf (Nat.le_refl _) new
    refine ⟨.ref s.heap.objs.size, _, I1, rfl, ⟨_, x, rfl, I.hok.fresh (Nat.le_refl _), rfl, fun ys hy => by rw [I.tuple_inj hy hq]; exact hx⟩, ⟨⟨y, ?_⟩, st'.1.at fun o q => (sb.2 it (Ne.symm hne)).trans q, hne⟩, fun b hb => ?_⟩
    · have e1 : ((i + 1 : Nat) : Int) = (i : Int) + 1 := by omega
      rw [e1]; exact he'
    · have hb' : b < s.heap.objs.size := by
        have e' : b = e ∨ b = it := by simpa using hb
        rcases e' with z | z
        · rw [z]; exact hel
        · rw [z]; exact hil
      rw [upd_ne (Nat.ne_of_lt hb')]
      exact (hf b hb).1
  done := by
    intro X hP hw hK hc i pins s σ H E I hf st hg
    subst hP hw hK
    obtain ⟨⟨old, he⟩, hit, hne⟩ := st
    obtain ⟨xs, hq, hx⟩ := hg
    obtain ⟨its, rv, p, hz⟩ := I.tuple hq
    have hai : a ≠ it := tup_ne_iter p hit
    obtain ⟨f0, f1, f2, f3, f4, f5⟩ := hf it (by simp)
    have hl := rv.length
    unfold pyNext
    have hT : s.TypeIs (.ref e) "enumerate" := ⟨_, he, rfl⟩
    refine wpAny_bind (wpAny_attempt (wpAny_callSpecial?_slot (name := Str.ofString "__next__") hT F.slot_enumerate_next
      (wpAny_call_entry F.slot_enumerate_next hT F.entry_enumerate_next ?_ (F.args_enumerate_next_1 _))))
    show wpAny _ _ (field (.ref e) 2 >>= _) _ _ _
    refine wpAny_bind (wpAny_field he rfl (x := .ref it) rfl ?_)
    refine wpAny_bind (wpAny_nextOf_tuple_end (show X.A.in1.handled = none from I.ok.hd hc) hit p (by simp; omega) fun h' x he' hx' => ?_)
    obtain ⟨o, ho, hcx⟩ := hx'
    refine wpAny_bind (wpAny_isInstance (T := "StopIteration") (b := true) ⟨o, ho, hcx⟩ isSubtype_stop ?_)
    exact wpAny_pure ⟨rfl, I.turned (t' := s.toks) (fun b o hb q => he' b o hb q) f0 f1 f3 f4 f5⟩
  self := fun A i s Q E st h => let ⟨⟨_, he⟩, _⟩ := st; wpAny_pyIter_enum he h
def iEnumT (K : PySem.W.Frag) (ta : TA) : TI := fun σ H R => ta σ H fun vs H1 => ∃ a xs, vs = [.ref a] ∧ SqT K H1 a xs ∧ R (IteT K a) H1
theorem pi_enumT {X : Cx} {e : Expr} {ta : TA} {p pos tpos : Pos} {elts : List Expr} {kk : Nat} (hg : Gl X "enumerate") (hm : X.mg "enumerate" = none) (ha : PA X [e] ta) (hs : starEach [e] X.env = [(false, eval e X.env)] := by rfl) :
    PI X (.Tuple elts kk tpos) (.Call (.Name "enumerate" p) [e] [] pos) (iEnumT X.K ta) := by
  refine ⟨fun pins s σ H R I h => ?_⟩
  refine Call_ (ld_blt I hg hm boot_enumerate (PyProof.Rows.callWith_type1 (thn (ha.run pos pins s σ H _ I h) fun us s1 ⟨vs, H1, I1, r1, q1⟩ => ?_) hs rfl))
  obtain ⟨a, xs, ex, hq, q⟩ := q1
  subst ex
  cases r1 with
  | cons r rr =>
    cases rr
    cases r
    obtain ⟨its, rv, p', hz⟩ := I1.tuple hq
    refine call_enumerate_tup p' fun h' he hit hsz hk => wpAny_pyIter_enum he ?_
    have I2 : Inv X pins σ H1 { s1 with heap := h' } := I1.kept (t' := s1.toks) hk
    refine ⟨s1.heap.objs.size + 1, [s1.heap.objs.size + 1, s1.heap.objs.size], _, _, H1, rfl, I2, turn_enumT a (s1.heap.objs.size + 1) s1.heap.objs.size, ⟨⟨.none, he⟩, hit, Nat.succ_ne_self _⟩, fun b hb => ?_, q⟩
    have e' : b = s1.heap.objs.size + 1 ∨ b = s1.heap.objs.size := by simpa using hb
    have hle : s1.heap.objs.size ≤ b := by
      rcases e' with z | z
      · rw [z]; exact Nat.le_add_right _ _
      · rw [z]; exact Nat.le_refl _
    exact I1.fpOk hle (I1.hok.fresh hle)
theorem walk_enumT {K : PySem.W.Frag} {a : Addr} {xs : List V} : Walk (IteT K a) xs.length (fun H => SqT K H a xs) (YPair (fun i => some (.int (i : Nat))) (fun i => xs[i]?)) := by
  refine ⟨fun i _ hi q => ⟨xs, xs[i], q, by simp [hi]⟩, fun _ q => ⟨xs, q, Nat.le_refl _⟩, fun i H v H' _ q y => ?_⟩
  obtain ⟨T, x, h1, h2, h3, h4⟩ := y
  exact ⟨T, .int (i : Nat), x, h1, h2, h3, rfl, h4 xs q⟩
end L2

namespace L2
open PySem PySem.Spec PyProof.Rows

/-! ### names for readings -/
section
variable {X : Cx}
def rInt1 : List V → Hp → VK → Prop := fun xs H Q => (∃ i, xs = [.int i] ∧ Q (.int i) H) ∨ ∃ k, xs = [.bl k] ∧ Q (.int (if k then 1 else 0)) H
theorem cr_int1 : CallR X (.type "int") rInt1 := call_int1
def rAbs : List V → Hp → VK → Prop := fun xs H Q => ∃ i, xs = [.int i] ∧ Q (.int (if i < 0 then -i else i)) H
theorem cr_abs : CallR X (.builtin "abs") rAbs := call_abs
def rMax2 : List V → Hp → VK → Prop := fun xs H Q => ∃ i j, xs = [.int i, .int j] ∧ Q (.int (if j > i then j else i)) H
theorem cr_max2 (hc : X.calm = true) : CallR X (.builtin "max") rMax2 := call_max2 hc
def rMin2 : List V → Hp → VK → Prop := fun xs H Q => ∃ i j, xs = [.int i, .int j] ∧ Q (.int (if j < i then j else i)) H
theorem cr_min2 (hc : X.calm = true) : CallR X (.builtin "min") rMin2 := call_min2 hc
def rLenS (K : PySem.W.Frag) : List V → Hp → VK → Prop := fun xs H Q => ∃ p ys, xs = [.ref p] ∧ (SqL K H p ys ∨ SqT K H p ys) ∧ Q (.int ys.length) H
theorem cr_lenS : CallR X (.builtin "len") (rLenS X.K) := call_len_seq
def rListS (K : PySem.W.Frag) : List V → Hp → VK → Prop := fun xs H Q => ∃ p ys, xs = [.ref p] ∧ (SqL K H p ys ∨ SqT K H p ys) ∧ ∀ l, H l = none → Q (.ref l) (upd H l (.lst ys))
theorem cr_listS : CallR X (.type "list") (rListS X.K) := call_list_of
def rTupS (K : PySem.W.Frag) : List V → Hp → VK → Prop := fun xs H Q => ∃ p ys, xs = [.ref p] ∧ ((SqL K H p ys ∧ ∀ l, H l = none → Q (.ref l) (upd H l (.tup ys))) ∨ (SqT K H p ys ∧ Q (.ref p) H))
theorem cr_tupS : CallR X (.type "tuple") (rTupS X.K) := call_tuple_of
def rIsN : R2 := fun x y H Q => y = .non ∧ Q (.bl (decide (x = .non))) H
def rNotN : R2 := fun x y H Q => y = .non ∧ Q (.bl (!decide (x = .non))) H
theorem op_isNN : OpR X (compareOp .Is) rIsN := op_isN
theorem op_notNN : OpR X (compareOp .IsNot) rNotN := op_notN
def tTru (K : PySem.W.Frag) (ta : TE) : TT := fun σ H Q => ta σ H fun x H' => ∃ k, TruV K x H' k ∧ Q k H'
theorem pt_tru {a : Expr} {ta : TE} (ha : PE X a ta) (he : ∀ whole, isTrue a X.env whole = (do let v ← whole; standAt a.pos; holding [v] (truthy v))) : PT X a (tTru X.K ta) := pt_truth ha he
end

/-! ### the readings, one step each -/
def nth (ns : List Int) (i : Int) : Int := ns.getD i.toNat 0
theorem nth_at {ns : List Int} {i : Int} (h0 : 0 ≤ i) (h1 : i < ns.length) : atI (ns.map V.int) i = some (.int (nth ns i)) := by
  have e : i = ((i.toNat : Nat) : Int) := (Int.toNat_of_nonneg h0).symm
  have h2 : i.toNat < ns.length := by omega
  have g : (ns.map V.int)[i.toNat]? = some (.int (nth ns i)) := by
    rw [List.getElem?_map, List.getElem?_eq_getElem h2]
    unfold nth
    rw [List.getD_eq_getElem?_getD, List.getElem?_eq_getElem h2]
    rfl
  exact at_of e g
theorem nth_nat (ns : List Int) (i : Nat) : nth ns (i : Int) = ns.getD i 0 := rfl
theorem nth_mem {ns : List Int} {i : Int} (h0 : 0 ≤ i) (h1 : i < ns.length) : nth ns i ∈ ns := by
  have h2 : i.toNat < ns.length := by omega
  unfold nth
  rw [List.getD_eq_getElem?_getD, List.getElem?_eq_getElem h2]
  exact List.getElem_mem h2

theorem Same.seqT {K : PySem.W.Frag} {H H' : Hp} {a : Addr} {xs : List V} (e : Same H H') (h : SqT K H a xs) : SqT K H' a xs := by
  rcases h with (h | ⟨o, h⟩) | h
  · exact .inl (.inl (e _ _ h))
  · exact .inl (.inr ⟨o, e _ _ h⟩)
  · exact .inr h
/-- a list (true) or a tuple (false) -/
def Sq (b : Bool) (K : PySem.W.Frag) (H : Hp) (a : Addr) (xs : List V) : Prop := match b with
  | true => SqL K H a xs
  | false => SqT K H a xs
theorem Sq.or {b : Bool} {K : PySem.W.Frag} {H : Hp} {a : Addr} {xs : List V} (h : Sq b K H a xs) : SqL K H a xs ∨ SqT K H a xs := by
  cases b
  · exact .inr h
  · exact .inl h
theorem Sq.lst {K : PySem.W.Frag} {H : Hp} {a : Addr} {xs : List V} (h : H a = some (.lst xs)) : Sq true K H a xs := SqL.of h
theorem Sq.tup {K : PySem.W.Frag} {H : Hp} {a : Addr} {xs : List V} (h : H a = some (.tup xs)) : Sq false K H a xs := SqT.of h
theorem Same.sq {b : Bool} {K : PySem.W.Frag} {H H' : Hp} {a : Addr} {xs : List V} (e : Same H H') (h : Sq b K H a xs) : Sq b K H' a xs := by
  cases b
  · exact e.seqT h
  · exact e.seq h
theorem Same.at {H H' : Hp} {a : Addr} {o : HO} (e : Same H H') (h : H a = some o) : H' a = some o := e a o h
theorem Same.new {H : Hp} {p : Addr} {o : HO} (h : H p = none) : Same H (upd H p o) := fun b x e => by
  rw [upd_ne (ne_of_none e h)]
  exact e
theorem Same.mut {H H' : Hp} {p : Addr} {o : HO} (e : Same H H') (h : H p = none) : Same H (upd H' p o) := fun a u ha => by
  rw [upd_ne (ne_of_none ha h)]
  exact e a u ha

section
variable {K : PySem.W.Frag} {σ σ' : St} {H : Hp} {v x y : V} {ta tb te : TE} {t u : TS} {D : Ends} {c d : TT} {Q : VK} {QB : Bool → Hp → Prop} {QA : List V → Hp → Prop} {r : R2}
theorem go_start (e : σ = σ') (h : t D σ' H) : t D σ H := by rw [e]; exact h
-- values
theorem w_var {i : Nat} (h : σ[i]? = some (some v)) (q : Q v H) : tVar i σ H Q := ⟨v, h, q⟩
theorem w_c (q : Q v H) : tC v σ H Q := q
theorem w_op (q : ta σ H fun x H1 => tb σ H1 fun y H2 => r x y H2 Q) : tOp r ta tb σ H Q := q
theorem w_un {r : V → Hp → VK → Prop} (q : ta σ H fun x H1 => r x H1 Q) : tUn r ta σ H Q := q
theorem w_rU {g : Int → V} {i : Int} (q : Q (g i) H) : rU g (.int i) H Q := ⟨i, rfl, q⟩
theorem w_I0 {g : Int → Int → V} {i j : Int} (q : Q (g i j) H) : rI0 g (.int i) (.int j) H Q := ⟨i, j, rfl, rfl, q⟩
theorem w_I {C : Int → Int → Prop} {g : Int → Int → V} {i j : Int} (hc : C i j) (q : Q (g i j) H) : rI C g (.int i) (.int j) H Q := ⟨i, j, rfl, rfl, hc, q⟩
theorem w_addI {i j : Int} (q : Q (.int (i + j)) H) : rAddG K (.int i) (.int j) H Q := .inl ⟨i, j, rfl, rfl, q⟩
theorem w_eqI {i j : Int} (q : Q (.bl (decide (i = j))) H) : rEqG K (.int i) (.int j) H Q := .inl ⟨rfl, by
  have e : decide (V.int i = V.int j) = decide (i = j) := by
    rw [dec_int]
    by_cases h : i = j
    · subst h; simp
    · rw [decide_eq_false h]; exact beq_eq_false_iff_ne.mpr h
  rw [e]; exact q⟩
theorem w_neI {i j : Int} (q : Q (.bl (!decide (i = j))) H) : rNeG K (.int i) (.int j) H Q := .inl ⟨rfl, by
  have e : decide (V.int i = V.int j) = decide (i = j) := by
    rw [dec_int]
    by_cases h : i = j
    · subst h; simp
    · rw [decide_eq_false h]; exact beq_eq_false_iff_ne.mpr h
  rw [e]; exact q⟩
theorem w_eqS (hs : scal x y = true) (q : Q (.bl (decide (x = y))) H) : rEqG K x y H Q := .inl ⟨hs, q⟩
theorem w_eqD {d e : PyData} (hd : Dp K H x d) (he : Dp K H y e) (sd : SeqAt.shaped d = true) (se : SeqAt.shaped e = true) (q : Q (.bl (PyData.eqv d e)) H) : rEqG K x y H Q := .inr ⟨d, e, hd, he, sd, se, q⟩
theorem w_neD {d e : PyData} (hd : Dp K H x d) (he : Dp K H y e) (sd : SeqAt.shaped d = true) (se : SeqAt.shaped e = true) (q : Q (.bl (!PyData.eqv d e)) H) : rNeG K x y H Q := .inr ⟨d, e, hd, he, sd, se, q⟩
theorem w_isN (q : Q (.bl (decide (x = .non))) H) : rIsN x .non H Q := ⟨rfl, q⟩
theorem w_isNn (q : Q (.bl true) H) : rIsN .non .non H Q := ⟨rfl, q⟩
theorem w_isNi {i : Int} (q : Q (.bl false) H) : rIsN (.int i) .non H Q := ⟨rfl, q⟩
theorem w_isNb {b : Bool} (q : Q (.bl false) H) : rIsN (.bl b) .non H Q := ⟨rfl, q⟩
theorem w_isNs {z : Str} (q : Q (.bl false) H) : rIsN (.str z) .non H Q := ⟨rfl, q⟩
theorem w_isNr {a : Addr} (q : Q (.bl false) H) : rIsN (.ref a) .non H Q := ⟨rfl, q⟩
theorem w_notNn (q : Q (.bl false) H) : rNotN .non .non H Q := ⟨rfl, q⟩
theorem w_notNi {i : Int} (q : Q (.bl true) H) : rNotN (.int i) .non H Q := ⟨rfl, q⟩
theorem w_notNb {b : Bool} (q : Q (.bl true) H) : rNotN (.bl b) .non H Q := ⟨rfl, q⟩
theorem w_notNs {z : Str} (q : Q (.bl true) H) : rNotN (.str z) .non H Q := ⟨rfl, q⟩
theorem w_notNr {a : Addr} (q : Q (.bl true) H) : rNotN (.ref a) .non H Q := ⟨rfl, q⟩
theorem w_notN (q : Q (.bl (!decide (x = .non))) H) : rNotN x .non H Q := ⟨rfl, q⟩
theorem w_cb {r : List V → Hp → VK → Prop} {ta : TA} (q : ta σ H fun vs H1 => r vs H1 Q) : tCB r ta σ H Q := q
theorem w_aNil (q : QA [] H) : tNil σ H QA := q
theorem w_aCons {tr : TA} (q : ta σ H fun x H1 => tr σ H1 fun xs H2 => QA (x :: xs) H2) : tCons ta tr σ H QA := q
theorem w_int1 {i : Int} (q : Q (.int i) H) : rInt1 [.int i] H Q := .inl ⟨i, rfl, q⟩
theorem w_int1b {k : Bool} (q : Q (.int (if k then 1 else 0)) H) : rInt1 [.bl k] H Q := .inr ⟨k, rfl, q⟩
theorem w_abs {i : Int} (q : Q (.int (if i < 0 then -i else i)) H) : rAbs [.int i] H Q := ⟨i, rfl, q⟩
theorem w_max2 {i j : Int} (q : Q (.int (if j > i then j else i)) H) : rMax2 [.int i, .int j] H Q := ⟨i, j, rfl, q⟩
theorem w_min2 {i j : Int} (q : Q (.int (if j < i then j else i)) H) : rMin2 [.int i, .int j] H Q := ⟨i, j, rfl, q⟩
theorem w_lenS {p : Addr} {ys : List V} {b : Bool} (h : Sq b K H p ys) (q : Q (.int ys.length) H) : rLenS K [.ref p] H Q := ⟨p, ys, rfl, h.or, q⟩
theorem w_lenI {p : Addr} {ns : List Int} {b : Bool} (h : Sq b K H p (ns.map V.int)) (q : Q (.int ns.length) H) : rLenS K [.ref p] H Q := ⟨p, _, rfl, h.or, by rw [List.length_map]; exact q⟩
theorem w_sumI {p : Addr} {ns : List Int} {b : Bool} (h : Sq b K H p (ns.map V.int)) (q : Q (.int ns.sum) H) : rSumS K [.ref p] H Q := ⟨p, ns, rfl, h.or, q⟩
theorem w_listS {p : Addr} {ys : List V} {b : Bool} (h : Sq b K H p ys) (q : ∀ l, H l = none → Q (.ref l) (upd H l (.lst ys))) : rListS K [.ref p] H Q := ⟨p, ys, rfl, h.or, q⟩
theorem w_tupL {p : Addr} {ys : List V} (h : Sq true K H p ys) (q : ∀ l, H l = none → Q (.ref l) (upd H l (.tup ys))) : rTupS K [.ref p] H Q := ⟨p, ys, rfl, .inl ⟨h, q⟩⟩
theorem w_tupT {p : Addr} {ys : List V} (h : Sq false K H p ys) (q : Q (.ref p) H) : rTupS K [.ref p] H Q := ⟨p, ys, rfl, .inr ⟨h, q⟩⟩
theorem w_ix {b : Bool} {p : Addr} {xs : List V} {i : Int} (h : Sq b K H p xs) (ha : atI xs i = some v) (q : Q v H) : rIx K (.ref p) (.int i) H Q := by
  rcases h.or with h | h
  · exact .inl ⟨p, xs, i, v, rfl, rfl, h, ha, q⟩
  · exact .inr (.inl ⟨p, xs, i, v, rfl, rfl, h, ha, q⟩)
theorem w_ixI {b : Bool} {p : Addr} {ns : List Int} {i : Int} (h : Sq b K H p (ns.map V.int)) (h0 : 0 ≤ i) (h1 : i < ns.length) (q : Q (.int (nth ns i)) H) : rIx K (.ref p) (.int i) H Q := w_ix h (nth_at h0 h1) q
theorem w_tupD {ta : TA} (q : ta σ H fun xs H1 => xs.length ≤ sizeLine ∧ ∀ p, H1 p = none → Q (.ref p) (upd H1 p (.tup xs))) : tTup ta σ H Q := q
theorem w_lstD {ta : TA} (q : ta σ H fun xs H1 => xs.length ≤ sizeLine ∧ ∀ p, H1 p = none → Q (.ref p) (upd H1 p (.lst xs))) : tLst ta σ H Q := q
theorem w_call {sp : Sp} {dvs : List V} {E : XK} {ta : TA} (q : ta σ H fun vs H1 => sp (vs ++ dvs) H1 Q E) : tCall sp dvs E ta σ H Q := q
theorem w_andV (q : ta σ H fun x H1 => ∃ c, x = .bl c ∧ if c = true then tb σ H1 Q else Q (.bl false) H1) : tAndV ta tb σ H Q := q
theorem w_orV (q : ta σ H fun x H1 => ∃ c, x = .bl c ∧ if c = true then Q (.bl true) H1 else tb σ H1 Q) : tOrV ta tb σ H Q := q
theorem w_notV (q : ta σ H fun x H1 => ∃ c, x = .bl c ∧ Q (.bl (!c)) H1) : tNotV ta σ H Q := q
-- methods of lists
theorem w_bm {T : String} {r : V → List V → Hp → VK → Prop} {to : TE} {ta : TA} (q : to σ H fun x H1 => tyV K T x H1 ∧ ta σ H1 fun xs H2 => r x xs H2 Q) : tBM K T r to ta σ H Q := q
theorem w_append {l : Addr} {xs : List V} (h : H l = some (.lst xs)) (hz : xs.length < sizeLine) (q : Q .non (upd H l (.lst (xs ++ [y])))) : rAppend (.ref l) [y] H Q := ⟨l, xs, y, rfl, rfl, h, hz, q⟩
theorem w_tyL {l : Addr} {xs : List V} {B : Prop} (h : Sq true K H l xs) (q : B) : tyV K "list" (.ref l) H ∧ B := ⟨.inl ⟨rfl, _, h⟩, q⟩
-- tests
theorem w_test (q : ta σ H fun x H' => ∃ k, x = .bl k ∧ QB k H') : tTest ta σ H QB := q
theorem w_tB (q : ta σ H fun x H' => ∃ k, x = .bl k ∧ QB k H') : tB ta σ H QB := q
theorem w_tru (q : ta σ H fun x H' => ∃ k, TruV K x H' k ∧ QB k H') : tTru K ta σ H QB := q
theorem w_exb {b : Bool} {F : Bool → Prop} (q : F b) : ∃ k, V.bl b = .bl k ∧ F k := ⟨b, rfl, q⟩
theorem w_truB {b : Bool} {F : Bool → Prop} (q : F b) : ∃ k, TruV K (.bl b) H k ∧ F k := ⟨b, rfl, q⟩
theorem w_truI {i : Int} {F : Bool → Prop} (q : F (i != 0)) : ∃ k, TruV K (.int i) H k ∧ F k := ⟨_, rfl, q⟩
theorem w_not (q : c σ H fun b H1 => QB (!b) H1) : tNot c σ H QB := q
theorem w_and (q : c σ H fun b H1 => if b = true then d σ H1 QB else QB false H1) : tAnd c d σ H QB := q
theorem w_or (q : c σ H fun b H1 => if b = true then QB true H1 else d σ H1 QB) : tOr c d σ H QB := q
theorem w_ifE (q : c σ H fun b H1 => if b = true then ta σ H1 Q else tb σ H1 Q) : tIf c ta tb σ H Q := q
theorem w_iteD {p A B : Prop} {_ : Decidable p} (h1 : p → A) (h2 : ¬ p → B) : if decide p = true then A else B := by
  by_cases h : p
  · rw [if_pos (decide_eq_true h)]; exact h1 h
  · rw [if_neg (by simp [h])]; exact h2 h
theorem w_iteN {p A B : Prop} {_ : Decidable p} (h1 : ¬ p → A) (h2 : p → B) : if (!decide p) = true then A else B := by
  by_cases h : p
  · rw [if_neg (by simp [h])]; exact h2 h
  · rw [if_pos (by simp [h])]; exact h1 h
theorem w_iteNT {A B : Prop} (h : B) : if (!true) = true then A else B := h
theorem w_iteNF {A B : Prop} (h : A) : if (!false) = true then A else B := h
theorem w_iteB {b : Bool} {A B : Prop} (h1 : b = true → A) (h2 : b = false → B) : if b = true then A else B := by
  cases b
  · exact h2 rfl
  · exact h1 rfl
-- statements
variable {f b' c' : St → Hp → Prop} {rt : VK}
theorem w_seq (q : t ⟨u ⟨f, rt, b', c'⟩, rt, b', c'⟩ σ H) : tSeq t u ⟨f, rt, b', c'⟩ σ H := q
theorem w_asg {g : TG} (q : te σ H fun x H1 => g x σ H1 f) : tAsg te g ⟨f, rt, b', c'⟩ σ H := q
theorem w_gName {i : Nat} {N : St → Hp → Prop} (q : N (σ.set i (some v)) H) : gName i v σ H N := q
theorem w_drop (q : te σ H fun _ H1 => f σ H1) : tDrop te ⟨f, rt, b', c'⟩ σ H := q
theorem w_ret (q : te σ H rt) : tRet te ⟨f, rt, b', c'⟩ σ H := q
theorem w_retN (q : rt .non H) : tRetN ⟨f, rt, b', c'⟩ σ H := q
theorem w_ifS (q : c σ H fun b H1 => if b = true then t D σ H1 else u D σ H1) : tIfS c t u D σ H := q
theorem w_next (q : f σ H) : tNext ⟨f, rt, b', c'⟩ σ H := q
theorem w_brk (q : b' σ H) : tBreak ⟨f, rt, b', c'⟩ σ H := q
theorem w_cont (q : c' σ H) : tCont ⟨f, rt, b', c'⟩ σ H := q
theorem w_nx {f b c : St → Hp → Prop} {r : VK} (q : f σ H) : Ends.nx ⟨f, r, b, c⟩ σ H := q
theorem w_rt {f b c : St → Hp → Prop} {r : VK} (q : r v H) : Ends.rt ⟨f, r, b, c⟩ v H := q
theorem w_bk {f b c : St → Hp → Prop} {r : VK} (q : b σ H) : Ends.bk ⟨f, r, b, c⟩ σ H := q
theorem w_ct {f b c : St → Hp → Prop} {r : VK} (q : c σ H) : Ends.ct ⟨f, r, b, c⟩ σ H := q
theorem w_augI {i : Nat} {g : Int → Int → Int} {z : Int} (hx : σ[i]? = some (some (.int z))) (q : te σ H fun y H1 => ipI g (.int z) y H1 fun z H2 => f (σ.set i (some z)) H2) : tAug i te (ipI g) ⟨f, rt, b', c'⟩ σ H := ⟨_, hx, q⟩
theorem w_ipI {f : Int → Int → Int} {i j : Int} (q : Q (.int (f i j)) H) : ipI f (.int i) (.int j) H Q := ⟨i, j, rfl, rfl, q⟩
-- slices
theorem w_sl {r : V → Option Int → Option Int → Hp → VK → Prop} {tl th : TO} (q : te σ H fun x H1 => tl σ H1 fun l H2 => th σ H2 fun u H3 => r x l u H3 Q) : tSl r te tl th σ H Q := q
theorem w_noPart {QO : Option Int → Hp → Prop} (q : QO none H) : tNoPart σ H QO := q
theorem w_part {QO : Option Int → Hp → Prop} (q : te σ H fun x H1 => ∃ i, x = .int i ∧ QO (some i) H1) : tPart te σ H QO := q
theorem w_exi {i : Int} {F : Int → Prop} (q : F i) : ∃ k, V.int i = .int k ∧ F k := ⟨i, rfl, q⟩
theorem w_slL {a : Addr} {xs : List V} {lo hi : Option Int} (h : Sq true K H a xs) (q : ∀ p, H p = none → Q (.ref p) (upd H p (.lst (cutV xs lo hi)))) : rSlG K (.ref a) lo hi H Q := .inl ⟨a, xs, rfl, h, q⟩
-- loops
end
/-- what a for asks of its walk J -/
def LoopOk (J : It) (g : TG) (tb : TS) (D : Ends) (σ : St) (H : Hp) : Prop := ∃ W : Nat → Nat → St → Hp → Prop, (∃ m, W 0 m σ H) ∧ ∀ i m σ H, W i m σ H →
  (J.stop i H ∧ D.nx σ H) ∨ (J.go i H ∧ ∃ N : St → Hp → Prop, (∀ σ' H', N σ' H' → ∃ m', m' < m ∧ W (i + 1) m' σ' H') ∧ ∀ x H', J.yld i H x H' → g x σ H' fun σ2 H2 => tb { D with nx := N, ct := N, bk := D.nx } σ2 H2)
section
variable {K : PySem.W.Frag} {σ σ' : St} {H : Hp} {t : TS} {D : Ends} {g : TG} {f b' c' : St → Hp → Prop} {rt : VK}
theorem w_for {wi : TI} (q : wi σ H fun J H1 => LoopOk J g t D σ H1) : tFor wi g t D σ H := q
theorem w_iRng1 {ta : TA} {R : It → Hp → Prop} (q : ta σ H fun vs H1 => ∃ j : Int, vs = [.int j] ∧ -(2 ^ 62) ≤ j ∧ j < 2 ^ 62 ∧ R (Itr 0 j.toNat) H1) : iRng1 ta σ H R := q
theorem w_iRng2 {ta : TA} {R : It → Hp → Prop} (q : ta σ H fun vs H1 => ∃ i j : Int, vs = [.int i, .int j] ∧ (-(2 ^ 62) ≤ i ∧ i < 2 ^ 62 ∧ -(2 ^ 62) ≤ j ∧ j < 2 ^ 62) ∧ R (Itr i (j - i).toNat) H1) : iRng2 ta σ H R := q
theorem l_it {J : It} {n : Nat} {G : Hp → Prop} {Y : Nat → Hp → V → Hp → Prop} (w : Walk J n G Y) (Pv : Nat → St → Hp → Prop) (h0 : Pv 0 σ H) (hG : ∀ i σ H, i ≤ n → Pv i σ H → G H)
    (hs : ∀ i x σ H H', i < n → Pv i σ H → Y i H x H' → g x σ H' fun σ2 H2 => t ⟨Pv (i + 1), rt, f, Pv (i + 1)⟩ σ2 H2) (hd : ∀ σ H, Pv n σ H → f σ H) : LoopOk J g t ⟨f, rt, b', c'⟩ σ H := for_it w Pv h0 hG hs hd
/-- for k in range(n) -/
theorem l_range {n : Int} {k : Nat} (Pv : Nat → St → Hp → Prop) (h1 : -(2 ^ 62) ≤ n) (h2 : n < 2 ^ 62) (h0 : Pv 0 σ H)
    (hs : ∀ (i : Nat) σ' H', (i : Int) < n → Pv i σ' H' → t ⟨Pv (i + 1), rt, f, Pv (i + 1)⟩ (σ'.set k (some (.int (i : Int)))) H') (hd : ∀ σ' H', Pv n.toNat σ' H' → f σ' H') :
    ∃ j : Int, [V.int n] = [.int j] ∧ -(2 ^ 62) ≤ j ∧ j < 2 ^ 62 ∧ LoopOk (Itr 0 j.toNat) (gName k) t ⟨f, rt, b', c'⟩ σ H := by
  refine ⟨n, rfl, h1, h2, l_it walk_range Pv h0 (fun _ _ _ _ _ => trivial) (fun i x σ' H1 H2 hi hp hy => ?_) hd⟩
  obtain ⟨e, ex⟩ := hy
  subst e ex
  show gName k (V.int (0 + (i : Int))) σ' _ _
  rw [Int.zero_add]
  exact hs i σ' _ (by omega) hp
theorem l_range2 {lo n : Int} {k : Nat} (Pv : Nat → St → Hp → Prop) (h1 : -(2 ^ 62) ≤ lo ∧ lo < 2 ^ 62 ∧ -(2 ^ 62) ≤ n ∧ n < 2 ^ 62) (h0 : Pv 0 σ H)
    (hs : ∀ (i : Nat) σ' H', lo + (i : Int) < n → Pv i σ' H' → t ⟨Pv (i + 1), rt, f, Pv (i + 1)⟩ (σ'.set k (some (.int (lo + (i : Int))))) H') (hd : ∀ σ' H', Pv (n - lo).toNat σ' H' → f σ' H') :
    ∃ i j : Int, [V.int lo, V.int n] = [.int i, .int j] ∧ (-(2 ^ 62) ≤ i ∧ i < 2 ^ 62 ∧ -(2 ^ 62) ≤ j ∧ j < 2 ^ 62) ∧ LoopOk (Itr i (j - i).toNat) (gName k) t ⟨f, rt, b', c'⟩ σ H := by
  refine ⟨lo, n, rfl, h1, l_it walk_range Pv h0 (fun _ _ _ _ _ => trivial) (fun i x σ' H1 H2 hi hp hy => ?_) hd⟩
  obtain ⟨e, ex⟩ := hy
  subst e ex
  exact hs i σ' _ (by omega) hp
end

/-! ### for x in (a list or a tuple), enumerate of either: what is walked is reckoned first -/
def iSeq (K : PySem.W.Frag) (tl : TE) : TI := fun σ H R => tl σ H fun x H1 => ∃ a, x = .ref a ∧ ((∃ xs, SqL K H1 a xs) ∧ R (Itl K a) H1 ∨ (∃ xs, SqT K H1 a xs) ∧ R (Itt K a) H1)
section
variable {X : Cx}
theorem pi_seqS {tg l : Expr} {tl : TE} (hl : PE X l tl) : PI X tg l (iSeq X.K tl) := by
  refine ⟨fun pins s σ H R I h => ?_⟩
  refine thn (hl.run pins s σ H _ I h) fun v s1 ⟨x, H1, I1, r1, q1⟩ => ?_
  obtain ⟨a, e, q1⟩ := q1
  subst e
  cases r1
  rcases q1 with ⟨⟨xs, hq⟩, q⟩ | ⟨⟨xs, hq⟩, q⟩
  · obtain ⟨its, rv, p, hz⟩ := I1.list hq
    refine wpAny_pyIter_list p.isList ?_
    refine ⟨s1.heap.objs.size, [s1.heap.objs.size], _, _, H1, rfl, I1.kept (t' := s1.toks) fun b o e => Heap.get?_push_of_some _ e, turn_list a _, ⟨_, Heap.get?_push_size _ rfl, rfl, rfl⟩, fun b hb => ?_, q⟩
    have e : b = s1.heap.objs.size := by simpa using hb
    subst e
    exact I1.fpOk (Nat.le_refl _) (I1.hok.fresh (Nat.le_refl _))
  · obtain ⟨its, rv, p, hz⟩ := I1.tuple hq
    refine wpAny_pyIter_tuple (show s1.heap.IsTuple a its.toArray from p) ?_
    refine ⟨s1.heap.objs.size, [s1.heap.objs.size], _, _, H1, rfl, I1.kept (t' := s1.toks) fun b o e => Heap.get?_push_of_some _ e, turn_tuple a _, ⟨_, Heap.get?_push_size _ rfl, rfl, rfl⟩, fun b hb => ?_, q⟩
    have e : b = s1.heap.objs.size := by simpa using hb
    subst e
    exact I1.fpOk (Nat.le_refl _) (I1.hok.fresh (Nat.le_refl _))
def iEnumS (K : PySem.W.Frag) (ta : TA) : TI := fun σ H R => ta σ H fun vs H1 => ∃ a, vs = [.ref a] ∧ ((∃ xs, SqL K H1 a xs) ∧ R (Ite K a) H1 ∨ (∃ xs, SqT K H1 a xs) ∧ R (IteT K a) H1)
theorem pi_enumS {e : Expr} {ta : TA} {p pos tpos : Pos} {elts : List Expr} {kk : Nat} (hg : Gl X "enumerate") (hm : X.mg "enumerate" = none) (ha : PA X [e] ta) (hs : starEach [e] X.env = [(false, eval e X.env)] := by rfl) :
    PI X (.Tuple elts kk tpos) (.Call (.Name "enumerate" p) [e] [] pos) (iEnumS X.K ta) := by
  refine ⟨fun pins s σ H R I h => ?_⟩
  refine Call_ (ld_blt I hg hm boot_enumerate (PyProof.Rows.callWith_type1 (thn (ha.run pos pins s σ H _ I h) fun us s1 ⟨vs, H1, I1, r1, q1⟩ => ?_) hs rfl))
  obtain ⟨a, ex, q1⟩ := q1
  subst ex
  cases r1 with
  | cons r rr =>
    cases rr
    cases r
    have fp : ∀ b ∈ [s1.heap.objs.size + 1, s1.heap.objs.size], FpOk X pins H1 b := fun b hb => by
      have e' : b = s1.heap.objs.size + 1 ∨ b = s1.heap.objs.size := by simpa using hb
      have hle : s1.heap.objs.size ≤ b := by
        rcases e' with z | z
        · rw [z]; exact Nat.le_add_right _ _
        · rw [z]; exact Nat.le_refl _
      exact I1.fpOk hle (I1.hok.fresh hle)
    rcases q1 with ⟨⟨xs, hq⟩, q⟩ | ⟨⟨xs, hq⟩, q⟩
    · obtain ⟨its, rv, p', hz⟩ := I1.list hq
      refine call_enumerate_list p'.isList fun h' he hit hsz hk => wpAny_pyIter_enum he ?_
      have I2 : Inv X pins σ H1 { s1 with heap := h' } := I1.kept (t' := s1.toks) hk
      exact ⟨s1.heap.objs.size + 1, [s1.heap.objs.size + 1, s1.heap.objs.size], _, _, H1, rfl, I2, turn_enum a (s1.heap.objs.size + 1) s1.heap.objs.size, ⟨⟨.none, he⟩, hit, Nat.succ_ne_self _⟩, fp, q⟩
    · obtain ⟨its, rv, p', hz⟩ := I1.tuple hq
      refine call_enumerate_tup p' fun h' he hit hsz hk => wpAny_pyIter_enum he ?_
      have I2 : Inv X pins σ H1 { s1 with heap := h' } := I1.kept (t' := s1.toks) hk
      exact ⟨s1.heap.objs.size + 1, [s1.heap.objs.size + 1, s1.heap.objs.size], _, _, H1, rfl, I2, turn_enumT a (s1.heap.objs.size + 1) s1.heap.objs.size, ⟨⟨.none, he⟩, hit, Nat.succ_ne_self _⟩, fp, q⟩
end
section
variable {K : PySem.W.Frag} {σ : St} {H : Hp} {t : TS} {D : Ends} {g : TG} {f b' c' : St → Hp → Prop} {rt : VK}
theorem w_iSeq {tl : TE} {R : It → Hp → Prop} (q : tl σ H fun x H1 => ∃ a, x = .ref a ∧ ((∃ xs, SqL K H1 a xs) ∧ R (Itl K a) H1 ∨ (∃ xs, SqT K H1 a xs) ∧ R (Itt K a) H1)) : iSeq K tl σ H R := q
theorem w_iEnumS {ta : TA} {R : It → Hp → Prop} (q : ta σ H fun vs H1 => ∃ a, vs = [.ref a] ∧ ((∃ xs, SqL K H1 a xs) ∧ R (Ite K a) H1 ∨ (∃ xs, SqT K H1 a xs) ∧ R (IteT K a) H1)) : iEnumS K ta σ H R := q
theorem l_seq {b : Bool} {a : Addr} (xs : List V) (Pv : Nat → St → Hp → Prop) (h : Sq b K H a xs) (h0 : Pv 0 σ H) (hG : ∀ i σ H, i ≤ xs.length → Pv i σ H → Sq b K H a xs)
    (hs : ∀ (i : Nat) x σ' H', i < xs.length → xs[i]? = some x → Pv i σ' H' → g x σ' H' fun σ2 H2 => t ⟨Pv (i + 1), rt, f, Pv (i + 1)⟩ σ2 H2) (hd : ∀ σ' H', Pv xs.length σ' H' → f σ' H') :
    ∃ a', V.ref a = .ref a' ∧ ((∃ xs, SqL K H a' xs) ∧ LoopOk (Itl K a') g t ⟨f, rt, b', c'⟩ σ H ∨ (∃ xs, SqT K H a' xs) ∧ LoopOk (Itt K a') g t ⟨f, rt, b', c'⟩ σ H) := by
  refine ⟨a, rfl, ?_⟩
  cases b with
  | true =>
    refine .inl ⟨⟨xs, h⟩, l_it (walk_list (xs := xs)) Pv h0 hG (fun i x σ' H1 H2 hi hp hy => ?_) hd⟩
    obtain ⟨e, ex⟩ := hy
    subst e
    exact hs i x σ' _ hi ex hp
  | false =>
    refine .inr ⟨⟨xs, h⟩, l_it (walk_tup (xs := xs)) Pv h0 hG (fun i x σ' H1 H2 hi hp hy => ?_) hd⟩
    obtain ⟨e, ex⟩ := hy
    subst e
    exact hs i x σ' _ hi ex hp
theorem l_enum {b : Bool} {a : Addr} (xs : List V) (Pv : Nat → St → Hp → Prop) (h : Sq b K H a xs) (h0 : Pv 0 σ H) (hG : ∀ i σ H, i ≤ xs.length → Pv i σ H → Sq b K H a xs)
    (hs : ∀ (i : Nat) x (T : Addr) σ' H', i < xs.length → xs[i]? = some x → Pv i σ' H' → H' T = none → g (.ref T) σ' (upd H' T (.tup [.int (i : Int), x])) fun σ2 H2 => t ⟨Pv (i + 1), rt, f, Pv (i + 1)⟩ σ2 H2) (hd : ∀ σ' H', Pv xs.length σ' H' → f σ' H') :
    ∃ a', [V.ref a] = [.ref a'] ∧ ((∃ xs, SqL K H a' xs) ∧ LoopOk (Ite K a') g t ⟨f, rt, b', c'⟩ σ H ∨ (∃ xs, SqT K H a' xs) ∧ LoopOk (IteT K a') g t ⟨f, rt, b', c'⟩ σ H) := by
  refine ⟨a, rfl, ?_⟩
  cases b with
  | true =>
    refine .inl ⟨⟨xs, h⟩, l_it (walk_enum (xs := xs)) Pv h0 hG (fun i x σ' H1 H2 hi hp hy => ?_) hd⟩
    obtain ⟨T, u, v, rfl, hT, e, hu, hv⟩ := hy
    cases hu
    subst e
    exact hs i v T σ' _ hi hv hp hT
  | false =>
    refine .inr ⟨⟨xs, h⟩, l_it (walk_enumT (xs := xs)) Pv h0 hG (fun i x σ' H1 H2 hi hp hy => ?_) hd⟩
    obtain ⟨T, u, v, rfl, hT, e, hu, hv⟩ := hy
    cases hu
    subst e
    exact hs i v T σ' _ hi hv hp hT
/-- a, b = (a new pair) -/
theorem w_pair {i j : Nat} {a : Addr} {x y : V} {N : St → Hp → Prop} (h : Sq false K H a [x, y]) (q : N ((σ.set i (some x)).set j (some y)) H) : gTup K 2 (gCons (gName i) (gCons (gName j) gNil)) (.ref a) σ H N :=
  ⟨a, [x, y], rfl, h, rfl, x, [y], rfl, y, [], rfl, rfl, q⟩
end
end L2

namespace L2
open PySem PySem.Spec PyProof.Rows
/-! ### stores into lists, cuts, isinstance, lists of numbers -/
section
variable {K : PySem.W.Frag} {σ : St} {H : Hp} {v x : V} {D : Ends} {t u : TS} {Q : VK} {ta tb : TE}
theorem w_gSub {r : TSet} {N : St → Hp → Prop} (q : ta σ H fun o H1 => tb σ H1 fun i H2 => r o i v H2 fun H3 => N σ H3) : gSub ta tb r v σ H N := q
theorem w_setI {p : Addr} {ns : List Int} {k z : Int} {N : Hp → Prop} (h : H p = some (.lst (ns.map V.int))) (h0 : 0 ≤ k) (h1 : k < ns.length) (q : N (upd H p (.lst ((ns.set k.toNat z).map V.int)))) : rSetL (.ref p) (.int k) (.int z) H N := by
  refine ⟨p, ns.map V.int, k, k.toNat, rfl, rfl, h, ?_, ?_⟩
  · unfold ixN
    rw [if_pos h0, if_pos (by rw [List.length_map]; omega)]
  · rw [← List.map_set]; exact q
theorem w_setL {p : Addr} {xs : List V} {k : Int} {N : Hp → Prop} (h : H p = some (.lst xs)) (h0 : 0 ≤ k) (h1 : k < xs.length) (q : N (upd H p (.lst (xs.set k.toNat v)))) : rSetL (.ref p) (.int k) v H N := by
  refine ⟨p, xs, k, k.toNat, rfl, rfl, h, ?_, q⟩
  unfold ixN
  rw [if_pos h0, if_pos (by omega)]
theorem w_cut {f b' c' : St → Hp → Prop} {rt : VK} (Mid : St → Hp → Prop) (h1 : t ⟨Mid, rt, b', c'⟩ σ H) (h2 : ∀ σ' H', Mid σ' H' → u ⟨f, rt, b', c'⟩ σ' H') : Evl.tCut t u ⟨f, rt, b', c'⟩ σ H := ⟨Mid, h1, h2⟩
theorem w_isi {tn cn : String} {b : Bool} (ht : TyX K H x (.type tn)) (hk : kitB tn cn = some b) (q : Q (.bl b) H) : rIsi K [x, .ty cn] H Q := ⟨x, .ty cn, _, _, b, rfl, .ty cn, ht, kit_ty hk, q⟩
theorem tyx_tup {a : Addr} {xs : List V} (h : SqT K H a xs) : TyX K H (.ref a) (.type "tuple") := by
  rcases h with (h | ⟨o, h⟩) | ⟨o, its, n, h1, h2, _⟩
  · exact .base (.tup h)
  · exact .fTuple h
  · exact .kTuple h1 h2
theorem tyx_lst {a : Addr} {xs : List V} (h : SqL K H a xs) : TyX K H (.ref a) (.type "list") := by
  rcases h with (h | ⟨o, h⟩) | ⟨o, its, n, h1, h2, _⟩
  · exact .base (.lst h)
  · exact .base (.frz h)
  · exact .kList h1 h2
end
theorem last_at_neg {ns : List Int} (h : 0 < ns.length) : ∃ z, z ∈ ns ∧ atI (ns.map V.int) (-1) = some (.int z) := by
  refine ⟨ns[ns.length - 1], List.getElem_mem _, ?_⟩
  unfold atI ixN
  rw [if_neg (by decide), if_pos (by rw [List.length_map]; omega)]
  show (ns.map V.int)[(-1 + (((ns.map V.int).length : Nat) : Int)).toNat]? = _
  rw [List.length_map, show (-1 + ((ns.length : Nat) : Int)).toNat = ns.length - 1 by omega, List.getElem?_map, List.getElem?_eq_getElem (by omega)]
  rfl
theorem sum_nonneg : ∀ {ns : List Int}, (∀ x ∈ ns, (0 : Int) ≤ x) → 0 ≤ ns.sum
  | [], _ => by simp
  | a :: r, h => by
    have h1 := h a (List.mem_cons_self ..)
    have h2 := sum_nonneg (ns := r) fun x hx => h x (List.mem_cons_of_mem _ hx)
    rw [List.sum_cons]; omega
theorem sum_ge_mem : ∀ {ns : List Int} {z : Int}, (∀ x ∈ ns, (0 : Int) ≤ x) → z ∈ ns → z ≤ ns.sum
  | a :: r, z, h, hz => by
    have h1 := h a (List.mem_cons_self ..)
    have h2 := sum_nonneg (ns := r) fun x hx => h x (List.mem_cons_of_mem _ hx)
    rw [List.sum_cons]
    rcases List.mem_cons.mp hz with e | e
    · subst e; omega
    · have := sum_ge_mem (ns := r) (fun x hx => h x (List.mem_cons_of_mem _ hx)) e
      omega
/-- the same data by _law_same: no deeper than n -/
def Sm (K : PySem.W.Frag) (H : Hp) : Nat → V → V → Prop
  | 0, x, y => x = y ∧ (x = .non ∨ (∃ b, x = .bl b) ∨ (∃ i, x = .int i) ∨ ∃ s, x = .str s)
  | n + 1, x, y => (x = y ∧ (x = .non ∨ (∃ b, x = .bl b) ∨ (∃ i, x = .int i) ∨ ∃ s, x = .str s)) ∨
    ∃ (a a' : Addr) (k : Bool) (xs ys : List V), x = .ref a ∧ y = .ref a' ∧ SqT K H a xs ∧ Sq k K H a' ys ∧ xs.length = ys.length ∧ ys.length ≤ 100000 ∧ ∀ (i : Nat) x' y', xs[i]? = some x' → ys[i]? = some y' → Sm K H n x' y'
theorem Sm.int {K : PySem.W.Frag} {H : Hp} {n : Nat} {i : Int} : Sm K H n (.int i) (.int i) := by
  cases n
  · exact ⟨rfl, .inr (.inr (.inl ⟨i, rfl⟩))⟩
  · exact .inl ⟨rfl, .inr (.inr (.inl ⟨i, rfl⟩))⟩
theorem Same.sm {K : PySem.W.Frag} {H H' : Hp} (e : Same H H') : ∀ {n : Nat} {x y : V}, Sm K H n x y → Sm K H' n x y
  | 0, _, _, h => h
  | n + 1, _, _, h => by
    rcases h with h | ⟨a, a', k, xs, ys, h1, h2, h3, h4, h5, hz, h6⟩
    · exact .inl h
    · exact .inr ⟨a, a', k, xs, ys, h1, h2, e.seqT h3, e.sq h4, h5, hz, fun i x' y' hx hy => Same.sm e (h6 i x' y' hx hy)⟩
end L2

namespace L2
open PySem PySem.Spec PyProof.Rows
/-! ### lists of numbers: cut, compared, looked into -/
section
variable {K : PySem.W.Frag} {H : Hp} {Q : VK}
theorem cutV_to (ns : List Int) {j : Int} (hj : 0 ≤ j) : cutV (ns.map V.int) none (some j) = (ns.take j.toNat).map V.int := by
  have e : j = ((j.toNat : Nat) : Int) := (Int.toNat_of_nonneg hj).symm
  unfold cutV
  rw [HT.sIx_none, e, HT.sIx_nat, List.drop_zero, Nat.sub_zero, Int.toNat_natCast, List.map_take, List.length_map]
  rcases Nat.le_total j.toNat ns.length with h | h
  · rw [Nat.min_eq_left h]
  · rw [Nat.min_eq_right h, List.take_of_length_le (by rw [List.length_map]; exact Nat.le_refl _), List.take_of_length_le (by rw [List.length_map]; exact h)]
theorem w_slTo {a : Addr} {ns : List Int} {j : Int} (h : Sq true K H a (ns.map V.int)) (hj : 0 ≤ j) (q : ∀ p, H p = none → Q (.ref p) (upd H p (.lst ((ns.take j.toNat).map V.int)))) : rSlG K (.ref a) none (some j) H Q :=
  .inl ⟨a, ns.map V.int, rfl, h, fun p hp => by rw [cutV_to ns hj]; exact q p hp⟩
theorem dpAll_ints {ns : List Int} : DpAll K H (ns.map V.int) (ns.map PyData.int) := by
  induction ns with
  | nil => exact .nil
  | cons a r ih => exact .cons (.int a) ih
theorem dp_ints {b : Bool} {a : Addr} {ns : List Int} (h : Sq b K H a (ns.map V.int)) : Dp K H (.ref a) (if b then .list (ns.map PyData.int) else .tuple (ns.map PyData.int)) := by
  cases b
  · exact .tup h dpAll_ints
  · exact .lst h dpAll_ints
theorem canLay_ints (ns : List Int) : PyData.canLayAll0 (ns.map PyData.int) = true := by
  induction ns with
  | nil => rfl
  | cons a r ih => simp only [List.map_cons, PyData.canLayAll0, PyData.canLay0, ih, Bool.and_self]
theorem depth_ints (ns : List Int) : PyData.depthAll (ns.map PyData.int) = 0 := by
  induction ns with
  | nil => rfl
  | cons a r ih => simp only [List.map_cons, PyData.depthAll, PyData.depth, ih, Nat.max_self]
theorem shaped_ints (ns : List Int) : SeqAt.shaped (.list (ns.map PyData.int)) = true := by
  simp [SeqAt.shaped, PyData.canLay0, PyData.depth, canLay_ints, depth_ints]
theorem shaped_intsT (ns : List Int) : SeqAt.shaped (.tuple (ns.map PyData.int)) = true := by
  simp [SeqAt.shaped, PyData.canLay0, PyData.depth, canLay_ints, depth_ints]
theorem eqvAll_ints (ns : List Int) : PyData.eqvAll (ns.map PyData.int) (ns.map PyData.int) = true := by
  induction ns with
  | nil => rfl
  | cons a r ih => simp only [List.map_cons, PyData.eqvAll, PyData.eqv, ih, beq_self_eq_true, Bool.and_self]
theorem w_neInts {a a' : Addr} {ns : List Int} (h : Sq true K H a (ns.map V.int)) (h' : Sq true K H a' (ns.map V.int)) (q : Q (.bl false) H) : rNeG K (.ref a) (.ref a') H Q :=
  w_neD (dp_ints h) (dp_ints h') (shaped_ints ns) (shaped_ints ns) (by
    have e : PyData.eqv (.list (ns.map PyData.int)) (.list (ns.map PyData.int)) = true := by simp only [PyData.eqv, eqvAll_ints]
    show Q (.bl (!PyData.eqv (.list (ns.map PyData.int)) (.list (ns.map PyData.int)))) H
    rw [e]; exact q)
theorem flat_ints (ns : List Int) : (ns.map V.int).all flatV = true := by
  induction ns with
  | nil => rfl
  | cons a r ih => simp only [List.map_cons, List.all_cons, ih, Bool.and_true]; rfl
theorem eqV_int (i j : Int) : eqV (.int i) (.int j) = (i == j) := rfl
theorem w_maxI {a : Addr} {ns : List Int} (h : Sq true K H a (ns.map V.int)) (hp : 0 < ns.length) (q : ∀ m, m ∈ ns → (∀ y, y ∈ ns → y ≤ m) → Q (.int m) H) : rMax K [.ref a] H Q := ⟨a, ns, rfl, h, hp, q⟩
theorem w_indexI {a : Addr} {ns : List Int} {z : Int} {j : Nat} (h : Sq true K H a (ns.map V.int)) (hj : j < ns.length) (e : nth ns (j : Nat) = z) (hno : ∀ m : Nat, m < j → nth ns (m : Nat) ≠ z) (q : Q (.int (j : Nat)) H) : rIndex K (.ref a) [.int z] H Q := by
  have hg : ∀ (m : Nat), m < ns.length → (ns.map V.int)[m]? = some (.int (nth ns (m : Nat))) := fun m hm => by
    rw [List.getElem?_map, List.getElem?_eq_getElem hm, nth_nat, List.getD_eq_getElem?_getD, List.getElem?_eq_getElem hm]
    rfl
  refine ⟨a, ns.map V.int, .int z, j, .int z, rfl, rfl, h, rfl, flat_ints ns, by rw [hg j hj, e], by rw [eqV_int]; exact beq_self_eq_true z, fun m z' hm hz => ?_, q⟩
  rw [hg m (by omega)] at hz
  cases hz
  rw [eqV_int]
  exact beq_eq_false_iff_ne.mpr (hno m hm)
end
end L2

namespace L2
open PySem PySem.Spec PyProof.Rows
/-! ### zip of two, each a list (true) or a tuple (false) -/
def ItOf (b : Bool) (h : Heap) (it a : Addr) (i : Nat) : Prop := match b with
  | true => h.IsListIter it a i
  | false => h.IsTupleIter it a i
def SrcOf (b : Bool) (h : Heap) (a : Addr) (items : Array Value) : Prop := match b with
  | true => h.IsList a items
  | false => h.IsTuple a items
theorem ItOf.at {b : Bool} {h h' : Heap} {it a : Addr} {i : Nat} (x : ItOf b h it a i) (k : ∀ o, h.get? it = some o → h'.get? it = some o) : ItOf b h' it a i := by
  cases b with
  | true => exact Heap.IsListIter.at (show h.IsListIter it a i from x) k
  | false => exact Heap.IsTupleIter.at (show h.IsTupleIter it a i from x) k
theorem ItOf.obj {b : Bool} {h : Heap} {it a : Addr} {i : Nat} (x : ItOf b h it a i) : ∃ o, h.get? it = some o ∧ ∀ v, o.data ≠ .cell v := by
  cases b with
  | true => obtain ⟨o, e, _, d⟩ := (show h.IsListIter it a i from x); exact ⟨o, e, fun v q => by rw [d] at q; cases q⟩
  | false => obtain ⟨o, e, _, d⟩ := (show h.IsTupleIter it a i from x); exact ⟨o, e, fun v q => by rw [d] at q; cases q⟩
theorem SrcOf.ne {b : Bool} {h : Heap} {a it : Addr} {items : Array Value} {b' : Bool} {a' : Addr} {i : Nat} (p : SrcOf b h a items) (q : ItOf b' h it a' i) : a ≠ it := by
  intro e
  subst e
  have hp : ∃ o, h.get? a = some o ∧ (o.cls = .type "list" ∨ o.cls = .type "tuple") := by
    cases b with
    | true => obtain ⟨o, ho, hc, _⟩ := (show h.IsList a items from p); exact ⟨o, ho, .inl hc⟩
    | false => obtain ⟨o, ho, hc, _⟩ := (show h.IsTuple a items from p); exact ⟨o, ho, .inr hc⟩
  have hq : ∃ o, h.get? a = some o ∧ (o.cls = .type "list_iterator" ∨ o.cls = .type "tuple_iterator") := by
    cases b' with
    | true => obtain ⟨o, ho, hc, _⟩ := (show h.IsListIter a a' i from q); exact ⟨o, ho, .inl hc⟩
    | false => obtain ⟨o, ho, hc, _⟩ := (show h.IsTupleIter a a' i from q); exact ⟨o, ho, .inr hc⟩
  obtain ⟨o, ho, hc⟩ := hp
  obtain ⟨o', ho', hc'⟩ := hq
  rw [ho] at ho'
  cases ho'
  rcases hc with hc | hc <;> rcases hc' with hc' | hc' <;> (rw [hc] at hc'; exact absurd hc' (by decide))
theorem Inv.src {X : Cx} {pins : List (Addr × Obj)} {σ : St} {H : Hp} {s : Shared} {b : Bool} {a : Addr} {xs : List V} (I : Inv X pins σ H s) (h : Sq b X.K H a xs) : ∃ its : List Value, Vals xs its ∧ SrcOf b s.heap a its.toArray ∧ a < s.heap.objs.size := by
  cases b with
  | true =>
    obtain ⟨its, rv, p, _⟩ := I.list h
    exact ⟨its, rv, p.isList, p.lt⟩
  | false =>
    obtain ⟨its, rv, p, _⟩ := I.tuple h
    obtain ⟨o, ho, _⟩ := id p
    exact ⟨its, rv, p, Heap.lt_size ho⟩
theorem Inv.sq_inj {X : Cx} {pins : List (Addr × Obj)} {σ : St} {H : Hp} {s : Shared} {b : Bool} {a : Addr} {xs ys : List V} (I : Inv X pins σ H s) (h : Sq b X.K H a xs) (h' : Sq b X.K H a ys) : xs = ys := by
  cases b with
  | true => exact I.list_inj h h'
  | false => exact I.tuple_inj h h'
theorem drawsOf {prog : Program} {w : World} {A : Around} (b : Bool) (hh : A.handled = none) (it a : Addr) (hne : a ≠ it) (items : Array Value) :
    Draws prog w A it [it, a] items.size (fun i v => items[i]? = some v) (fun i h => ItOf b h it a i ∧ SrcOf b h a items) := by
  cases b with
  | true => exact Draws.list hh it a hne items
  | false => exact Draws.tuple hh it a hne items
def ItzS (b1 b2 : Bool) (K : PySem.W.Frag) (a b : Addr) : It :=
  ⟨fun i H => ∃ (xs ys : List V) (x y : V), Sq b1 K H a xs ∧ Sq b2 K H b ys ∧ xs[i]? = some x ∧ ys[i]? = some y,
    fun i H v H' => ∃ T x y, v = .ref T ∧ H T = none ∧ H' = upd H T (.tup [x, y]) ∧ (∀ xs, Sq b1 K H a xs → xs[i]? = some x) ∧ ∀ ys, Sq b2 K H b ys → ys[i]? = some y,
    fun i H => ∃ xs ys : List V, Sq b1 K H a xs ∧ Sq b2 K H b ys ∧ i ≤ xs.length ∧ i ≤ ys.length ∧ (xs.length ≤ i ∨ ys.length ≤ i)⟩
theorem turn_zipS {P : Program} {w : World} {K : PySem.W.Frag} {elts : List Expr} {kk : Nat} {tpos : Pos} (b1 b2 : Bool) {a b z TI TO i1 i2 : Addr} (D : ZipSep2 z TI TO i1 i2 [i1, a] [i2, b]) :
    Turn P w K (.Tuple elts kk tpos) (ItzS b1 b2 K a b) [z, TI, TO, i1, i2] z (fun i h => IsZip h z TI TO .none ∧ IsPair h TI (.ref i1) (.ref i2) ∧ (∃ x y, IsPair h TO x y) ∧ ItOf b1 h i1 a i ∧ ItOf b2 h i2 b i) where
  mem := by simp
  obj := fun i h st c hc => by
    obtain ⟨hz, hTI, ⟨x, y, hTO⟩, h1, h2⟩ := st
    have e' : c = z ∨ c = TI ∨ c = TO ∨ c = i1 ∨ c = i2 := by simpa using hc
    rcases e' with q | q | q | q | q
    · rw [q]; exact ⟨_, hz, fun v q => nomatch q⟩
    · rw [q]; exact ⟨_, hTI, fun v q => nomatch q⟩
    · rw [q]; exact ⟨_, hTO, fun v q => nomatch q⟩
    · rw [q]; exact h1.obj
    · rw [q]; exact h2.obj
  keep := fun i h h' st k => by
    obtain ⟨hz, hTI, ⟨x, y, hTO⟩, h1, h2⟩ := st
    exact ⟨k z (by simp) _ hz, k TI (by simp) _ hTI, ⟨x, y, k TO (by simp) _ hTO⟩, h1.at fun o q => k i1 (by simp) o q, h2.at fun o q => k i2 (by simp) o q⟩
  item := by
    intro X hP hw hK hc i pins s σ H E I hf st hg
    subst hP hw hK
    obtain ⟨hz, hTI, ⟨x0, y0, hTO⟩, h1, h2⟩ := st
    obtain ⟨xs, ys, x, y, hqx, hqy, hx, hy⟩ := hg
    obtain ⟨its, rv, p, la⟩ := I.src hqx
    obtain ⟨its2, rv2, p2, lb⟩ := I.src hqy
    obtain ⟨u, hu, ru⟩ := rv.get hx
    obtain ⟨u2, hu2, ru2⟩ := rv2.get hy
    have hzl : z < s.heap.objs.size := Heap.lt_size hz
    have hl1 : i < its.toArray.size := by simpa using (List.getElem?_eq_some_iff.mp hu).1
    have hl2 : i < its2.toArray.size := by simpa using (List.getElem?_eq_some_iff.mp hu2).1
    have hin : X.A.in1.handled = none := I.ok.hd hc
    refine wpAny_pyNext_zipD2_item D (drawsOf b1 hin i1 a (p.ne h1) its.toArray) (drawsOf b2 hin i2 b (p2.ne h2) its2.toArray) hz hTI hTO ⟨h1, p⟩ ⟨h2, p2⟩ hl1 hl2 fun w1 w2 h' tk e1 e2 z' TO' st1 st2 hT hsz hk => ?_
    have ew1 : w1 = u := by
      have g1 : its.toArray[i]? = some w1 := e1
      have g2 : its.toArray[i]? = some u := by simpa using hu
      rw [g1] at g2
      exact Option.some.inj g2
    have ew2 : w2 = u2 := by
      have g1 : its2.toArray[i]? = some w2 := e2
      have g2 : its2.toArray[i]? = some u2 := by simpa using hu2
      rw [g1] at g2
      exact Option.some.inj g2
    subst ew1 ew2
    refine ⟨_, rfl, wpAny_letOwnedTupleGo_zip (s := { s with heap := h', toks := tk }) z' fun h'' z'' sb => ?_⟩
    have hT2 : h''.get? s.heap.objs.size = some { cls := .type "tuple", data := .seq #[w1, w2] } := (sb.2 _ (Nat.ne_of_gt hzl)).trans hT
    have new : ObjOk X.prog X.w (upd H s.heap.objs.size (.tup [x, y])) h'' s.heap.objs.size (.tup [x, y]) :=
      ⟨by show 2 ≤ sizeLine; decide, [w1, w2], .cons ru (.cons ru2 .nil), ⟨_, hT2, rfl, _, rfl⟩⟩
    have I1 : Inv X pins σ (upd H s.heap.objs.size (.tup [x, y])) { s with heap := h'', toks := tk } :=
      I.turnedNew (t' := tk) (ch := [z, TI, TO, i1, i2]) (fun c o hb q => (sb.2 c (fun q' => hb (by simp [q']))).trans (hk c o (fun q' => hb (by simp [q'])) (fun q' => hb (by simp [q'])) (fun q' => hb (by simp [q'])) (fun q' => hb (by simp [q'])) q)) hf (Nat.le_refl _) new
    refine ⟨.ref s.heap.objs.size, _, I1, rfl, ⟨_, x, y, rfl, I.hok.fresh (Nat.le_refl _), rfl, fun l hl => by rw [I.sq_inj hl hqx]; exact hx, fun l hl => by rw [I.sq_inj hl hqy]; exact hy⟩, ⟨z'', ?_, ⟨w1, w2, ?_⟩, ?_, ?_⟩, fun c hcm => ?_⟩
    · exact (sb.2 _ D.TIz).trans (hk _ _ D.TIz D.TITO D.TIi1 D.TIi2 hTI)
    · exact (sb.2 _ D.TOz).trans TO'
    · exact st1.1.at fun o q => (sb.2 _ (Ne.symm D.zi1)).trans q
    · exact st2.1.at fun o q => (sb.2 _ (Ne.symm D.zi2)).trans q
    · have hlt : c < s.heap.objs.size := by
        have e' : c = z ∨ c = TI ∨ c = TO ∨ c = i1 ∨ c = i2 := by simpa using hcm
        rcases e' with q | q | q | q | q
        · rw [q]; exact hzl
        · rw [q]; exact Heap.lt_size hTI
        · rw [q]; exact Heap.lt_size hTO
        · rw [q]; obtain ⟨_, e1, _⟩ := h1.obj; exact Heap.lt_size e1
        · rw [q]; obtain ⟨_, e2, _⟩ := h2.obj; exact Heap.lt_size e2
      rw [upd_ne (Nat.ne_of_lt hlt)]
      exact (hf c hcm).1
  done := by
    intro X hP hw hK hc i pins s σ H E I hf st hg
    subst hP hw hK
    obtain ⟨hz, hTI, ⟨x0, y0, hTO⟩, h1, h2⟩ := st
    obtain ⟨xs, ys, hqx, hqy, le1, le2, hend⟩ := hg
    obtain ⟨its, rv, p, _⟩ := I.src hqx
    obtain ⟨its2, rv2, p2, _⟩ := I.src hqy
    have l1 := rv.length
    have l2 := rv2.length
    have hin : X.A.in1.handled = none := I.ok.hd hc
    refine wpAny_pyNext_zipD2_end D (drawsOf b1 hin i1 a (p.ne h1) its.toArray) (drawsOf b2 hin i2 b (p2.ne h2) its2.toArray) hz hTI hTO ⟨h1, p⟩ ⟨h2, p2⟩ (by simp; omega) (by simp; omega) (by simp; omega) fun h' tk hk => ⟨rfl, ?_⟩
    exact I.turnedL (t' := tk) (ch := [z, TI, TO, i1, i2]) (fun c o hb q => hk c o (fun q' => hb (by simp [q'])) (fun q' => hb (by simp [q'])) (fun q' => hb (by simp [q'])) (fun q' => hb (by simp [q'])) q) hf
  self := fun A i s Q E st h => wpAny_pyIter_zip st.1 h
theorem begins_src (b : Bool) (a : Addr) (items : Array Value) : ∃ o, Begins (.ref a) o (fun h => SrcOf b h a items) ∧ ∀ (h : Heap) (it : Addr), h.get? it = some o → ItOf b h it a 0 := by
  cases b with
  | true => exact ⟨_, begins_list a items, fun h it e => ⟨_, e, rfl, rfl⟩⟩
  | false => exact ⟨_, begins_tuple a items, fun h it e => ⟨_, e, rfl, rfl⟩⟩
def iZipS (K : PySem.W.Frag) (ta : TA) : TI := fun σ H R => ta σ H fun vs H1 => ∃ a b, vs = [.ref a, .ref b] ∧ ∃ b1 b2 xs ys, Sq b1 K H1 a xs ∧ Sq b2 K H1 b ys ∧ R (ItzS b1 b2 K a b) H1
theorem pi_zipS {X : Cx} {e e2 : Expr} {ta : TA} {p pos tpos : Pos} {elts : List Expr} {kk : Nat} (hg : Gl X "zip") (hm : X.mg "zip" = none) (ha : PA X [e, e2] ta)
    (hs : starEach [e, e2] X.env = (false, eval e X.env) :: starEach [e2] X.env := by rfl) (hpl : (backTo pos (starEach [e2] X.env)).any (·.1) = false := by rfl) :
    PI X (.Tuple elts kk tpos) (.Call (.Name "zip" p) [e, e2] [] pos) (iZipS X.K ta) := by
  refine ⟨fun pins s σ H R I h => ?_⟩
  refine Call_ (ld_blt I hg hm PyProof.Rows.boot_zip (PyProof.Rows.callWith_type1 (thn (ha.run pos pins s σ H _ I h) fun us s1 ⟨vs, H1, I1, r1, q1⟩ => ?_) hs hpl))
  obtain ⟨a, b, ex, b1, b2, xs, ys, hqx, hqy, q⟩ := q1
  subst ex
  cases r1 with
  | cons r rr =>
    cases rr with
    | cons r' rr =>
      cases rr
      cases r
      cases r'
      obtain ⟨its, rv, p1, la⟩ := I1.src hqx
      obtain ⟨its2, rv2, p2, lb⟩ := I1.src hqy
      obtain ⟨o1, B1, k1⟩ := begins_src b1 a its.toArray
      obtain ⟨o2, B2, k2⟩ := begins_src b2 b its2.toArray
      refine zip_begins2 B1 B2 p1 p2 fun h' hz hTI hTO g1 g2 hsz hk => wpAny_pyIter_zip hz ?_
      have I2 : Inv X pins σ H1 { s1 with heap := h' } := I1.kept (t' := s1.toks) hk
      refine ⟨s1.heap.objs.size + 4, [s1.heap.objs.size + 4, s1.heap.objs.size + 2, s1.heap.objs.size + 3, s1.heap.objs.size, s1.heap.objs.size + 1], _, _, H1, rfl, I2,
        turn_zipS b1 b2 (zip_sep2 (N := s1.heap.objs.size) (fp1 := [a]) (fp2 := [b]) (fun c hc => by rw [List.mem_singleton.mp hc]; exact la) (fun c hc => by rw [List.mem_singleton.mp hc]; exact lb)), ⟨hz, hTI, ⟨_, _, hTO⟩, k1 _ _ g1, k2 _ _ g2⟩, fun c hcm => ?_, q⟩
      have e' : c = s1.heap.objs.size + 4 ∨ c = s1.heap.objs.size + 2 ∨ c = s1.heap.objs.size + 3 ∨ c = s1.heap.objs.size ∨ c = s1.heap.objs.size + 1 := by simpa using hcm
      have hle : s1.heap.objs.size ≤ c := by
        rcases e' with z | z | z | z | z
        · rw [z]; exact Nat.le_add_right _ _
        · rw [z]; exact Nat.le_add_right _ _
        · rw [z]; exact Nat.le_add_right _ _
        · rw [z]; exact Nat.le_refl _
        · rw [z]; exact Nat.le_add_right _ _
      exact I1.fpOk hle (I1.hok.fresh hle)
theorem walk_zipS {b1 b2 : Bool} {K : PySem.W.Frag} {a b : Addr} {xs ys : List V} (hn : xs.length = ys.length) : Walk (ItzS b1 b2 K a b) xs.length (fun H => Sq b1 K H a xs ∧ Sq b2 K H b ys) (YPair (fun i => xs[i]?) (fun i => ys[i]?)) := by
  refine ⟨fun i _ hi q => ?_, fun _ q => ⟨xs, ys, q.1, q.2, Nat.le_refl _, by omega, .inl (Nat.le_refl _)⟩, fun i H v H' _ q y => ?_⟩
  · exact ⟨xs, ys, xs[i], ys[i], q.1, q.2, by simp [hi], by simp [show i < ys.length by omega]⟩
  · obtain ⟨T, x, z, h1, h2, h3, h4, h5⟩ := y
    exact ⟨T, x, z, h1, h2, h3, h4 xs q.1, h5 ys q.2⟩
section
variable {K : PySem.W.Frag} {σ : St} {H : Hp} {t : TS} {D : Ends} {g : TG} {f bk ct : St → Hp → Prop} {rt : VK}
theorem w_iZipS {ta : TA} {R : It → Hp → Prop} (q : ta σ H fun vs H1 => ∃ a b, vs = [.ref a, .ref b] ∧ ∃ b1 b2 xs ys, Sq b1 K H1 a xs ∧ Sq b2 K H1 b ys ∧ R (ItzS b1 b2 K a b) H1) : iZipS K ta σ H R := q
theorem l_zip {b1 b2 : Bool} {a b : Addr} (xs ys : List V) (hn : xs.length = ys.length) (Pv : Nat → St → Hp → Prop) (hx : Sq b1 K H a xs) (hy : Sq b2 K H b ys) (h0 : Pv 0 σ H) (hG : ∀ i σ H, i ≤ xs.length → Pv i σ H → Sq b1 K H a xs ∧ Sq b2 K H b ys)
    (hs : ∀ (i : Nat) x y (T : Addr) σ' H', i < xs.length → xs[i]? = some x → ys[i]? = some y → Pv i σ' H' → H' T = none → g (.ref T) σ' (upd H' T (.tup [x, y])) fun σ2 H2 => t ⟨Pv (i + 1), rt, f, Pv (i + 1)⟩ σ2 H2) (hd : ∀ σ' H', Pv xs.length σ' H' → f σ' H') :
    ∃ a' b', [V.ref a, V.ref b] = [.ref a', .ref b'] ∧ ∃ b1 b2 xs ys, Sq b1 K H a' xs ∧ Sq b2 K H b' ys ∧ LoopOk (ItzS b1 b2 K a' b') g t ⟨f, rt, bk, ct⟩ σ H := by
  refine ⟨a, b, rfl, b1, b2, xs, ys, hx, hy, l_it (walk_zipS hn) Pv h0 hG (fun i x σ' H1 H2 hi hp hy => ?_) hd⟩
  obtain ⟨T, u, v, rfl, hT, e, hu, hv⟩ := hy
  subst e
  exact hs i u v T σ' _ hi hu hv hp hT
end

/-! ### list comprehensions -/
/-- what a comprehension asks of its walk J -/
def CompOk (J : It) (g : TG) (tt : TT) (te : TE) (vs : List Nat) (σ : St) (H1 : Hp) (Q : VK) : Prop := ∀ D, H1 D = none → ∃ W : Nat → Nat → Hp → Prop, (∃ m, W 0 m (upd H1 D (.lst []))) ∧ ∀ i m H, W i m H →
  (J.stop i H ∧ Q (.ref D) H) ∨ (J.go i H ∧ ∃ Nx : Hp → Prop, (∀ H', Nx H' → ∃ m', m' < m ∧ W (i + 1) m' H') ∧ ∀ x H', J.yld i H x H' → g x (wipe σ vs) H' fun σ2 H2 => wipe σ2 vs = wipe σ vs ∧ tt σ2 H2 fun b H3 =>
    if b = true then te σ2 H3 fun y H4 => ∃ acc, H4 D = some (.lst acc) ∧ acc.length < sizeLine ∧ Nx (upd H4 D (.lst (acc ++ [y]))) else Nx H3)
/-- the heap without what stands at D -/
def hide (D : Addr) (H : Hp) : Hp := fun b => if b = D then none else H b
theorem hide_at (D : Addr) (H : Hp) : hide D H D = none := if_pos rfl
theorem hide_ne {D b : Addr} {H : Hp} (h : b ≠ D) : hide D H b = H b := if_neg h
theorem hide_same (D : Addr) (H : Hp) : Same (hide D H) H := fun b o e => by
  by_cases h : b = D
  · subst h; rw [hide_at] at e; cases e
  · rw [hide_ne h] at e; exact e
theorem same_hide {D : Addr} {H H' : Hp} (e : Same H H') (h : H D = none) : Same H (hide D H') := fun b o q => by
  rw [hide_ne (ne_of_none q h)]
  exact e b o q
theorem hide_upd (D : Addr) (H : Hp) (o : HO) : hide D (upd H D o) = hide D H := by
  funext b
  by_cases h : b = D
  · subst h; rw [hide_at, hide_at]
  · rw [hide_ne h, hide_ne h, upd_ne h]
theorem hide_mono {D : Addr} {H H' : Hp} (e : Same H H') : Same (hide D H) (hide D H') := fun b o q => by
  by_cases h : b = D
  · subst h; rw [hide_at] at q; cases q
  · rw [hide_ne h] at q ⊢; exact e b o q
/-- no tuple, nothing frozen -/
def NTup : Option HO → Prop
  | some (.tup _) => False
  | some (.frz _ _) => False
  | _ => True
theorem NTup.lst {H : Hp} {D : Addr} {acc : List V} (h : H D = some (.lst acc)) : NTup (H D) := by rw [h]; trivial
theorem NTup.ins {H : Hp} {D C dx : Addr} {fs : List (Str × V)} (h : H D = some (.ins C dx fs)) : NTup (H D) := by rw [h]; trivial
theorem sq_hide {K : PySem.W.Frag} {D p : Addr} {H : Hp} {xs : List V} (hD : NTup (H D)) (h : Sq false K H p xs) : Sq false K (hide D H) p xs := by
  have h : SqT K H p xs := h
  rcases h with (h | ⟨o, h⟩) | h
  · exact .inl (.inl (by rw [hide_ne (fun e => by rw [← e, h] at hD; exact hD)]; exact h))
  · exact .inl (.inr ⟨o, by rw [hide_ne (fun e => by rw [← e, h] at hD; exact hD)]; exact h⟩)
  · exact .inr h
section
variable {K : PySem.W.Frag} {σ : St} {H : Hp} {tt : TT} {te : TE} {g : TG} {vs : List Nat} {Q : VK}
theorem w_lc {wi : TI} (q : wi σ H fun J H1 => CompOk J g tt te vs σ H1 Q) : tLc wi g tt te vs σ H Q := q
/-- every turn gives one item: R of the turn, the item and the heap without the new list -/
theorem l_comp {J : It} {n : Nat} {G : Hp → Prop} {Y : Nat → Hp → V → Hp → Prop} (w : Walk J n G Y) (hz : n < sizeLine) (R : Nat → V → Hp → Prop) (hR : ∀ i y H1 H2, Same H1 H2 → R i y H1 → R i y H2) (hG : ∀ H', Same H H' → G H')
    (hY : ∀ i x H1 H2, i < n → Y i H1 x H2 → Same H1 H2)
    (hs : ∀ i x H1 H2 D acc (N : VK), i < n → Same H H1 → H D = none → H1 D = some (.lst acc) → Y i H1 x H2 → Same H1 H2 → (∀ y H4, Same H2 H4 → R i y (hide D H4) → N y H4) → g x (wipe σ vs) H2 fun σ2 H3 => wipe σ2 vs = wipe σ vs ∧ te σ2 H3 N)
    (k : ∀ D H' ys, H D = none → Same H H' → H' D = some (.lst ys) → ys.length = n → (∀ (i : Nat) y, ys[i]? = some y → R i y (hide D H')) → Q (.ref D) H') : CompOk J g tYes te vs σ H Q := by
  intro D hD
  refine lc_it w (fun i H' => ∃ ys, H' D = some (.lst ys) ∧ ys.length = i ∧ Same H H' ∧ ∀ (j : Nat) y, ys[j]? = some y → R j y (hide D H')) ?_ (fun i H' _ ⟨ys, _, _, sm, _⟩ => hG H' sm) ?_ ?_
  · exact ⟨[], upd_same, rfl, Same.new hD, fun j y e => by simp at e⟩
  · rintro i x H1 H2 hi ⟨ys, e1, e2, sm, hr⟩ hy
    have s12 := hY i x H1 H2 hi hy
    refine hs i x H1 H2 D ys _ hi sm hD e1 hy s12 fun y H4 s24 r4 => ?_
    have e4 : H4 D = some (.lst ys) := s24 _ _ (s12 _ _ e1)
    refine ⟨ys, e4, by omega, ys ++ [y], upd_same, by rw [List.length_append, e2]; rfl, Same.mut ((sm.trans s12).trans s24) hD, fun j z ez => ?_⟩
    rw [hide_upd]
    by_cases hj : j < ys.length
    · rw [List.getElem?_append_left hj] at ez
      exact hR _ _ _ _ (hide_mono (s12.trans s24)) (hr j z ez)
    · have hlen := (List.getElem?_eq_some_iff.mp ez).1
      rw [List.length_append] at hlen
      have ej : j = ys.length := by
        have : j < ys.length + 1 := hlen
        omega
      subst ej
      rw [List.getElem?_append_right (Nat.le_refl _), Nat.sub_self] at ez
      have ey : y = z := Option.some.inj ez
      subst ey
      rw [e2]
      exact r4
  · rintro H' ⟨ys, e1, e2, sm, hr⟩
    exact k D H' ys hD sm e1 e2 hr
/-- over a list or a tuple -/
theorem l_compS {b : Bool} {a : Addr} {j : Nat} (xs : List V) (hx : Sq b K H a xs) (hz : xs.length < sizeLine) (R : Nat → V → Hp → Prop) (hR : ∀ i y H1 H2, Same H1 H2 → R i y H1 → R i y H2)
    (hw : ∀ x : V, wipe ((wipe σ vs).set j (some x)) vs = wipe σ vs)
    (hs : ∀ (i : Nat) x H1 D acc (N : VK), i < xs.length → xs[i]? = some x → Same H H1 → H D = none → H1 D = some (.lst acc) → (∀ y H4, Same H1 H4 → R i y (hide D H4) → N y H4) → te ((wipe σ vs).set j (some x)) H1 N)
    (k : ∀ D H' ys, H D = none → Same H H' → H' D = some (.lst ys) → ys.length = xs.length → (∀ (i : Nat) y, ys[i]? = some y → R i y (hide D H')) → Q (.ref D) H') :
    ∃ a', V.ref a = .ref a' ∧ ((∃ xs, SqL K H a' xs) ∧ CompOk (Itl K a') (gName j) tYes te vs σ H Q ∨ (∃ xs, SqT K H a' xs) ∧ CompOk (Itt K a') (gName j) tYes te vs σ H Q) := by
  refine ⟨a, rfl, ?_⟩
  cases b with
  | true =>
    refine .inl ⟨⟨xs, hx⟩, l_comp (walk_list (xs := xs)) hz R hR (fun H' sm => sm.sq (b := true) hx) (fun i x H1 H2 hi hy => by rw [hy.1]; exact Same.refl _) (fun i x H1 H2 D acc N hi sm hD e1 hy s12 hN => ?_) k⟩
    obtain ⟨e, ex⟩ := hy
    subst e
    exact ⟨hw x, hs i x _ D acc N hi ex sm hD e1 hN⟩
  | false =>
    refine .inr ⟨⟨xs, hx⟩, l_comp (walk_tup (xs := xs)) hz R hR (fun H' sm => sm.sq (b := false) hx) (fun i x H1 H2 hi hy => by rw [hy.1]; exact Same.refl _) (fun i x H1 H2 D acc N hi sm hD e1 hy s12 hN => ?_) k⟩
    obtain ⟨e, ex⟩ := hy
    subst e
    exact ⟨hw x, hs i x _ D acc N hi ex sm hD e1 hN⟩
/-- over range(n) -/
theorem l_compR {n : Int} {j : Nat} (h1 : -(2 ^ 62) ≤ n) (h2 : n < 16000000) (R : Nat → V → Hp → Prop) (hR : ∀ i y H1 H2, Same H1 H2 → R i y H1 → R i y H2)
    (hw : ∀ x : V, wipe ((wipe σ vs).set j (some x)) vs = wipe σ vs)
    (hs : ∀ (i : Nat) H1 D acc (N : VK), (i : Int) < n → Same H H1 → H D = none → H1 D = some (.lst acc) → (∀ y H4, Same H1 H4 → R i y (hide D H4) → N y H4) → te ((wipe σ vs).set j (some (.int (i : Int)))) H1 N)
    (k : ∀ D H' ys, H D = none → Same H H' → H' D = some (.lst ys) → ys.length = n.toNat → (∀ (i : Nat) y, ys[i]? = some y → R i y (hide D H')) → Q (.ref D) H') :
    ∃ j' : Int, [V.int n] = [.int j'] ∧ -(2 ^ 62) ≤ j' ∧ j' < 2 ^ 62 ∧ CompOk (Itr 0 j'.toNat) (gName j) tYes te vs σ H Q := by
  refine ⟨n, rfl, h1, by omega, l_comp (walk_range (lo := 0) (n := n.toNat)) (by rw [sizeLine_eq]; omega) R hR (fun _ _ => trivial) (fun i x H1 H2 hi hy => by rw [hy.1]; exact Same.refl _) (fun i x H1 H2 D acc N hi sm hD e1 hy s12 hN => ?_) k⟩
  obtain ⟨e, ex⟩ := hy
  subst e ex
  show wipe ((wipe σ vs).set j (some (.int (0 + (i : Int))))) vs = wipe σ vs ∧ te ((wipe σ vs).set j (some (.int (0 + (i : Int))))) _ N
  rw [Int.zero_add]
  exact ⟨hw _, hs i _ D acc N (by omega) sm hD e1 hN⟩
/-- over zip of two -/
theorem l_compZ {b1 b2 : Bool} {a b : Addr} {i1 i2 nn : Nat} (xs ys : List V) (hn : xs.length = ys.length) (hx : Sq b1 K H a xs) (hy : Sq b2 K H b ys) (hz : xs.length < sizeLine) (R : Nat → V → Hp → Prop) (hR : ∀ i y H1 H2, Same H1 H2 → R i y H1 → R i y H2) (hnn : nn = 2)
    (hw : ∀ x y : V, wipe (((wipe σ vs).set i1 (some x)).set i2 (some y)) vs = wipe σ vs)
    (hs : ∀ (i : Nat) x y H1 D acc (N : VK), i < xs.length → xs[i]? = some x → ys[i]? = some y → Same H H1 → H D = none → H1 D = some (.lst acc) → (∀ y H4, Same H1 H4 → R i y (hide D H4) → N y H4) → te (((wipe σ vs).set i1 (some x)).set i2 (some y)) H1 N)
    (k : ∀ D H' ys, H D = none → Same H H' → H' D = some (.lst ys) → ys.length = xs.length → (∀ (i : Nat) y, ys[i]? = some y → R i y (hide D H')) → Q (.ref D) H') :
    ∃ a' b', [V.ref a, V.ref b] = [.ref a', .ref b'] ∧ ∃ b1 b2 xs ys, Sq b1 K H a' xs ∧ Sq b2 K H b' ys ∧ CompOk (ItzS b1 b2 K a' b') (gTup K nn (gCons (gName i1) (gCons (gName i2) gNil))) tYes te vs σ H Q := by
  subst hnn
  refine ⟨a, b, rfl, b1, b2, xs, ys, hx, hy, l_comp (walk_zipS hn) hz R hR (fun H' sm => ⟨sm.sq hx, sm.sq hy⟩) (fun i x H1 H2 hi hy => ?_) (fun i x H1 H2 D acc N hi sm hD e1 hy s12 hN => ?_) k⟩
  · obtain ⟨T, u, v, rfl, hT, e, hu, hv⟩ := hy
    subst e
    exact Same.new hT
  · obtain ⟨T, u, v, rfl, hT, e, hu, hv⟩ := hy
    subst e
    exact w_pair (Sq.tup upd_same) ⟨hw u v, hs i u v _ D acc N hi hu hv (sm.trans s12) hD (s12 _ _ e1) hN⟩
end
end L2

namespace L2
open PySem PySem.Spec PyProof.Rows
/-! ### data over the heap: relations that new objects leave as they are -/
abbrev Rep (α : Type) := Hp → V → α → Prop
def RMono {α : Type} (R : Rep α) : Prop := ∀ H H' v x, Same H H' → R H v x → R H' v x
/-- no list in it: what stands at a list may be left out -/
def RTup {α : Type} (R : Rep α) : Prop := ∀ H D v x, NTup (H D) → R H v x → R (hide D H) v x
def RLst {α : Type} (R : Rep α) : Prop := ∀ H D v x ys, H D = some (.lst ys) → R H v x → R (hide D H) v x
theorem RTup.lst {α : Type} {R : Rep α} (h : RTup R) : RLst R := fun H D v x _ e r => h H D v x (NTup.lst e) r
def RInt : Rep Int := fun _ v i => v = .int i
/-- numbers in a list (true) or a tuple (false) -/
def RVec (b : Bool) (K : PySem.W.Frag) : Rep (List Int) := fun H v ns => ∃ a, v = .ref a ∧ Sq b K H a (ns.map V.int)
def RSeq (b : Bool) (K : PySem.W.Frag) {α : Type} (R : Rep α) : Rep (List α) := fun H v xs => ∃ a vs, v = .ref a ∧ Sq b K H a vs ∧ vs.length = xs.length ∧ ∀ (i : Nat) y x, vs[i]? = some y → xs[i]? = some x → R H y x
def RPair (K : PySem.W.Frag) {α β : Type} (R : Rep α) (S : Rep β) : Rep (α × β) := fun H v p => ∃ a x y, v = .ref a ∧ Sq false K H a [x, y] ∧ R H x p.1 ∧ S H y p.2
section
variable {K : PySem.W.Frag} {α β : Type} {R : Rep α} {S : Rep β} {b : Bool}
theorem RInt.mono : RMono RInt := fun _ _ _ _ _ h => h
theorem RInt.tup : RTup RInt := fun _ _ _ _ _ h => h
theorem RVec.mono : RMono (RVec b K) := fun _ _ _ _ s ⟨a, e, h⟩ => ⟨a, e, s.sq h⟩
theorem RVec.tup : RTup (RVec false K) := fun _ _ _ _ hD ⟨a, e, h⟩ => ⟨a, e, sq_hide hD h⟩
theorem RSeq.mono (hR : RMono R) : RMono (RSeq b K R) := fun _ _ _ _ s ⟨a, vs, e, h, hl, q⟩ => ⟨a, vs, e, s.sq h, hl, fun i y x h1 h2 => hR _ _ _ _ s (q i y x h1 h2)⟩
theorem RSeq.tup (hR : RTup R) : RTup (RSeq false K R) := fun _ _ _ _ hD ⟨a, vs, e, h, hl, q⟩ => ⟨a, vs, e, sq_hide hD h, hl, fun i y x h1 h2 => hR _ _ _ _ hD (q i y x h1 h2)⟩
theorem RPair.mono (hR : RMono R) (hS : RMono S) : RMono (RPair K R S) := fun _ _ _ _ s ⟨a, x, y, e, h, h1, h2⟩ => ⟨a, x, y, e, s.sq h, hR _ _ _ _ s h1, hS _ _ _ _ s h2⟩
theorem RPair.tup (hR : RTup R) (hS : RTup S) : RTup (RPair K R S) := fun _ _ _ _ hD ⟨a, x, y, e, h, h1, h2⟩ => ⟨a, x, y, e, sq_hide hD h, hR _ _ _ _ hD h1, hS _ _ _ _ hD h2⟩
theorem RSeq.get {H : Hp} {vs : List V} {xs : List α} (hl : vs.length = xs.length) (q : ∀ (i : Nat) y x, vs[i]? = some y → xs[i]? = some x → R H y x) {i : Nat} {x : α} (h : xs[i]? = some x) : ∃ y, vs[i]? = some y ∧ R H y x := by
  have hi := (List.getElem?_eq_some_iff.mp h).1
  exact ⟨vs[i], List.getElem?_eq_getElem (by omega), q i _ x (List.getElem?_eq_getElem (by omega)) h⟩
theorem vec_at {ns : List Int} {i : Nat} {y : V} (h : (ns.map V.int)[i]? = some y) : y = .int (nth ns (i : Nat)) ∧ i < ns.length := by
  have hi := (List.getElem?_eq_some_iff.mp h).1
  rw [List.length_map] at hi
  rw [List.getElem?_map, List.getElem?_eq_getElem hi] at h
  refine ⟨?_, hi⟩
  rw [← Option.some.inj h, nth_nat, List.getD_eq_getElem?_getD, List.getElem?_eq_getElem hi]
  rfl
theorem vec_get {ns : List Int} {i : Nat} (hi : i < ns.length) : (ns.map V.int)[i]? = some (.int (nth ns (i : Nat))) := by
  rw [List.getElem?_map, List.getElem?_eq_getElem hi, nth_nat, List.getD_eq_getElem?_getD, List.getElem?_eq_getElem hi]
  rfl
theorem vec_of {ys : List V} {ns : List Int} (hl : ys.length = ns.length) (h : ∀ (i : Nat) y, ys[i]? = some y → y = .int (nth ns (i : Nat))) : ys = ns.map V.int := by
  refine List.ext_getElem? fun i => ?_
  by_cases hi : i < ys.length
  · rw [vec_get (by omega), List.getElem?_eq_getElem hi]
    exact congrArg some (h i _ (List.getElem?_eq_getElem hi))
  · rw [List.getElem?_eq_none (by omega), List.getElem?_eq_none (by rw [List.length_map]; omega)]
end
section
variable {K : PySem.W.Frag} {σ : St} {H : Hp} {te : TE} {vs : List Nat} {Q : VK} {b b1 b2 : Bool} {a a1 a2 : Addr} {j : Nat}
/-- a comprehension that gives numbers -/
theorem c_ints (xs : List V) (hx : Sq b K H a xs) (ms : List Int) (hl : ms.length = xs.length) (hz : xs.length < sizeLine) (hw : ∀ x : V, wipe ((wipe σ vs).set j (some x)) vs = wipe σ vs)
    (hs : ∀ (i : Nat) x H1 (N : VK), i < xs.length → xs[i]? = some x → Same H H1 → (∀ H4, Same H1 H4 → N (.int (nth ms (i : Nat))) H4) → te ((wipe σ vs).set j (some x)) H1 N)
    (k : ∀ D H', H D = none → Same H H' → H' D = some (.lst (ms.map V.int)) → Q (.ref D) H') :
    ∃ a', V.ref a = .ref a' ∧ ((∃ xs, SqL K H a' xs) ∧ CompOk (Itl K a') (gName j) tYes te vs σ H Q ∨ (∃ xs, SqT K H a' xs) ∧ CompOk (Itt K a') (gName j) tYes te vs σ H Q) :=
  l_compS xs hx hz (fun i y _ => y = .int (nth ms (i : Nat))) (fun _ _ _ _ _ h => h) hw (fun i x H1 D acc N hi hxi sm hD e1 hN => hs i x H1 N hi hxi sm fun H4 s4 => hN _ H4 s4 rfl)
    (fun D H' ys hD sm e hly hr => k D H' hD sm (by rw [e, vec_of (by omega) hr]))
theorem c_intsR {n : Int} (h1 : -(2 ^ 62) ≤ n) (h2 : n < 16000000) (ms : List Int) (hl : ms.length = n.toNat) (hw : ∀ x : V, wipe ((wipe σ vs).set j (some x)) vs = wipe σ vs)
    (hs : ∀ (i : Nat) H1 (N : VK), (i : Int) < n → Same H H1 → (∀ H4, Same H1 H4 → N (.int (nth ms (i : Nat))) H4) → te ((wipe σ vs).set j (some (.int (i : Int)))) H1 N)
    (k : ∀ D H', H D = none → Same H H' → H' D = some (.lst (ms.map V.int)) → Q (.ref D) H') :
    ∃ j' : Int, [V.int n] = [.int j'] ∧ -(2 ^ 62) ≤ j' ∧ j' < 2 ^ 62 ∧ CompOk (Itr 0 j'.toNat) (gName j) tYes te vs σ H Q :=
  l_compR h1 h2 (fun i y _ => y = .int (nth ms (i : Nat))) (fun _ _ _ _ _ h => h) hw (fun i H1 D acc N hi sm hD e1 hN => hs i H1 N hi sm fun H4 s4 => hN _ H4 s4 rfl)
    (fun D H' ys hD sm e hly hr => k D H' hD sm (by rw [e, vec_of (by omega) hr]))
theorem c_intsZ {i1 i2 nn : Nat} (xs ys : List V) (hn : xs.length = ys.length) (hx : Sq b1 K H a1 xs) (hy : Sq b2 K H a2 ys) (ms : List Int) (hl : ms.length = xs.length) (hz : xs.length < sizeLine) (hnn : nn = 2)
    (hw : ∀ x y : V, wipe (((wipe σ vs).set i1 (some x)).set i2 (some y)) vs = wipe σ vs)
    (hs : ∀ (i : Nat) x y H1 (N : VK), i < xs.length → xs[i]? = some x → ys[i]? = some y → Same H H1 → (∀ H4, Same H1 H4 → N (.int (nth ms (i : Nat))) H4) → te (((wipe σ vs).set i1 (some x)).set i2 (some y)) H1 N)
    (k : ∀ D H', H D = none → Same H H' → H' D = some (.lst (ms.map V.int)) → Q (.ref D) H') :
    ∃ a' b', [V.ref a1, V.ref a2] = [.ref a', .ref b'] ∧ ∃ b1 b2 xs ys, Sq b1 K H a' xs ∧ Sq b2 K H b' ys ∧ CompOk (ItzS b1 b2 K a' b') (gTup K nn (gCons (gName i1) (gCons (gName i2) gNil))) tYes te vs σ H Q :=
  l_compZ xs ys hn hx hy hz (fun i y _ => y = .int (nth ms (i : Nat))) (fun _ _ _ _ _ h => h) hnn hw (fun i x y H1 D acc N hi hxi hyi sm hD e1 hN => hs i x y H1 N hi hxi hyi sm fun H4 s4 => hN _ H4 s4 rfl)
    (fun D H' zs hD sm e hly hr => k D H' hD sm (by rw [e, vec_of (by omega) hr]))
/-- a comprehension that gives data without the new list in them -/
theorem c_repL {α : Type} {R : Rep α} (hm : RMono R) (ht : RLst R) (xs : List V) (hx : Sq b K H a xs) (ds : List α) (hl : ds.length = xs.length) (hz : xs.length < sizeLine) (hw : ∀ x : V, wipe ((wipe σ vs).set j (some x)) vs = wipe σ vs)
    (hs : ∀ (i : Nat) x d H1 (N : VK), i < xs.length → xs[i]? = some x → ds[i]? = some d → Same H H1 → (∀ y H4, Same H1 H4 → R H4 y d → N y H4) → te ((wipe σ vs).set j (some x)) H1 N)
    (k : ∀ D H' ys, H D = none → Same H H' → H' D = some (.lst ys) → ys.length = ds.length → (∀ (i : Nat) y d, ys[i]? = some y → ds[i]? = some d → R H' y d) → Q (.ref D) H') :
    ∃ a', V.ref a = .ref a' ∧ ((∃ xs, SqL K H a' xs) ∧ CompOk (Itl K a') (gName j) tYes te vs σ H Q ∨ (∃ xs, SqT K H a' xs) ∧ CompOk (Itt K a') (gName j) tYes te vs σ H Q) :=
  l_compS xs hx hz (fun i y H' => ∀ d, ds[i]? = some d → R H' y d) (fun _ _ _ _ s h d hd => hm _ _ _ _ s (h d hd)) hw
    (fun i x H1 D acc N hi hxi sm hD e1 hN => by
      obtain ⟨d, hd⟩ : ∃ d, ds[i]? = some d := ⟨ds[i]'(by omega), List.getElem?_eq_getElem (by omega)⟩
      refine hs i x d H1 N hi hxi hd sm fun y H4 s4 r4 => hN y H4 s4 fun d' hd' => ?_
      rw [hd] at hd'
      cases hd'
      exact ht _ D _ _ _ (s4 _ _ e1) r4)
    (fun D H' ys hD sm e hly hr => k D H' ys hD sm e (by omega) fun i y d h1 h2 => hm _ _ _ _ (hide_same D H') (hr i y h1 d h2))
/-- a comprehension that gives data without lists -/
theorem c_rep {α : Type} {R : Rep α} (hm : RMono R) (ht : RTup R) (xs : List V) (hx : Sq b K H a xs) (ds : List α) (hl : ds.length = xs.length) (hz : xs.length < sizeLine) (hw : ∀ x : V, wipe ((wipe σ vs).set j (some x)) vs = wipe σ vs)
    (hs : ∀ (i : Nat) x d H1 (N : VK), i < xs.length → xs[i]? = some x → ds[i]? = some d → Same H H1 → (∀ y H4, Same H1 H4 → R H4 y d → N y H4) → te ((wipe σ vs).set j (some x)) H1 N)
    (k : ∀ D H' ys, H D = none → Same H H' → H' D = some (.lst ys) → ys.length = ds.length → (∀ (i : Nat) y d, ys[i]? = some y → ds[i]? = some d → R H' y d) → Q (.ref D) H') :
    ∃ a', V.ref a = .ref a' ∧ ((∃ xs, SqL K H a' xs) ∧ CompOk (Itl K a') (gName j) tYes te vs σ H Q ∨ (∃ xs, SqT K H a' xs) ∧ CompOk (Itt K a') (gName j) tYes te vs σ H Q) :=
  c_repL hm ht.lst xs hx ds hl hz hw hs k
theorem c_repR {α : Type} {R : Rep α} {n : Int} (hm : RMono R) (ht : RTup R) (h1 : -(2 ^ 62) ≤ n) (h2 : n < 16000000) (ds : List α) (hl : ds.length = n.toNat) (hw : ∀ x : V, wipe ((wipe σ vs).set j (some x)) vs = wipe σ vs)
    (hs : ∀ (i : Nat) d H1 (N : VK), (i : Int) < n → ds[i]? = some d → Same H H1 → (∀ y H4, Same H1 H4 → R H4 y d → N y H4) → te ((wipe σ vs).set j (some (.int (i : Int)))) H1 N)
    (k : ∀ D H' ys, H D = none → Same H H' → H' D = some (.lst ys) → ys.length = ds.length → (∀ (i : Nat) y d, ys[i]? = some y → ds[i]? = some d → R H' y d) → Q (.ref D) H') :
    ∃ j' : Int, [V.int n] = [.int j'] ∧ -(2 ^ 62) ≤ j' ∧ j' < 2 ^ 62 ∧ CompOk (Itr 0 j'.toNat) (gName j) tYes te vs σ H Q :=
  l_compR h1 h2 (fun i y H' => ∀ d, ds[i]? = some d → R H' y d) (fun _ _ _ _ s h d hd => hm _ _ _ _ s (h d hd)) hw
    (fun i H1 D acc N hi sm hD e1 hN => by
      obtain ⟨d, hd⟩ : ∃ d, ds[i]? = some d := ⟨ds[i]'(by omega), List.getElem?_eq_getElem (by omega)⟩
      refine hs i d H1 N hi hd sm fun y H4 s4 r4 => hN y H4 s4 fun d' hd' => ?_
      rw [hd] at hd'
      cases hd'
      exact ht _ D _ _ (NTup.lst (s4 _ _ e1)) r4)
    (fun D H' ys hD sm e hly hr => k D H' ys hD sm e (by omega) fun i y d h1 h2 => hm _ _ _ _ (hide_same D H') (hr i y h1 d h2))
/-- the same data twice -/
theorem RInt.sm {n : Nat} {x y : V} {i : Int} (h1 : RInt H x i) (h2 : RInt H y i) : Sm K H n x y := by
  cases h1
  cases h2
  exact Sm.int
theorem RSeq.sm {α : Type} {R S : Rep α} {n : Nat} {x y : V} {ds : List α} (hz : ds.length ≤ 100000) (hRS : ∀ x y d, d ∈ ds → R H x d → S H y d → Sm K H n x y) (h1 : RSeq false K R H x ds) (h2 : RSeq b K S H y ds) : Sm K H (n + 1) x y := by
  obtain ⟨a, xs, rfl, hx, hxl, hxr⟩ := h1
  obtain ⟨a', ys, rfl, hy, hyl, hyr⟩ := h2
  refine .inr ⟨a, a', b, xs, ys, rfl, rfl, hx, hy, by omega, by omega, fun i x' y' e1 e2 => ?_⟩
  have hi := (List.getElem?_eq_some_iff.mp e1).1
  have hd : ds[i]? = some (ds[i]'(by omega)) := List.getElem?_eq_getElem (by omega)
  exact hRS _ _ _ (List.mem_of_getElem? hd) (hxr i _ _ e1 hd) (hyr i _ _ e2 hd)
theorem RVec.sm {n : Nat} {x y : V} {ns : List Int} (hz : ns.length ≤ 100000) (h1 : RVec false K H x ns) (h2 : RVec b K H y ns) : Sm K H (n + 1) x y := by
  obtain ⟨a, rfl, hx⟩ := h1
  obtain ⟨a', rfl, hy⟩ := h2
  refine .inr ⟨a, a', b, _, _, rfl, rfl, hx, hy, rfl, by rw [List.length_map]; exact hz, fun i x' y' e1 e2 => ?_⟩
  rw [(vec_at e1).1, (vec_at e2).1]
  exact Sm.int
theorem RPair.sm {α β : Type} {R R' : Rep α} {S S' : Rep β} {n : Nat} {x y : V} {p : α × β} (hR : ∀ x y, R H x p.1 → R' H y p.1 → Sm K H n x y) (hS : ∀ x y, S H x p.2 → S' H y p.2 → Sm K H n x y) (h1 : RPair K R S H x p) (h2 : RPair K R' S' H y p) : Sm K H (n + 1) x y := by
  obtain ⟨a, x1, x2, rfl, hx, r1, r2⟩ := h1
  obtain ⟨a', y1, y2, rfl, hy, q1, q2⟩ := h2
  refine .inr ⟨a, a', false, _, _, rfl, rfl, hx, hy, rfl, by show 2 ≤ 100000; omega, fun i x' y' e1 e2 => ?_⟩
  match i, e1, e2 with
  | 0, e1, e2 => cases e1; cases e2; exact hR _ _ r1 q1
  | 1, e1, e2 => cases e1; cases e2; exact hS _ _ r2 q2
  | i + 2, e1, _ => simp at e1
end
/-! ### fields of objects -/
section
variable {K : PySem.W.Frag} {σ : St} {H : Hp} {v : V} {Q : VK} {ta : TE} {D : Ends}
theorem lk_here {f : Str} {v : V} {r : List (Str × V)} : List.lookup f ((f, v) :: r) = some v := by simp [List.lookup]
theorem lk_next {f g : Str} {v : V} {r : List (Str × V)} {o : Option V} (h : (f == g) = false) (q : List.lookup f r = o) : List.lookup f ((g, v) :: r) = o := by
  rw [List.lookup, h]; exact q
theorem pf_here {f : Str} {v u : V} {r : List (Str × V)} : putF f v ((f, u) :: r) = (f, v) :: r := by
  show (if f = f then _ else _) = _
  rw [if_pos rfl]
theorem pf_next {f g : Str} {v u : V} {r r' : List (Str × V)} (h : (g == f) = false) (q : putF f v r = r') : putF f v ((g, u) :: r) = (g, u) :: r' := by
  have hne : ¬ g = f := fun e => by rw [e] at h; simp at h
  show (if g = f then _ else (g, u) :: putF f v r) = _
  rw [if_neg hne, q]
theorem pf_nil {f : Str} {v : V} : putF f v [] = [(f, v)] := rfl
theorem w_fld {f : Str} (q : ta σ H fun x H1 => ∃ a C dx fs v, x = .ref a ∧ H1 a = some (.ins C dx fs) ∧ Cls K C ∧ NoAttr K C f ∧ fs.lookup f = some v ∧ Q v H1) : tFld K ta f σ H Q := q
theorem w_fldAt {f : Str} {p C dx : Addr} {fs : List (Str × V)} (h : H p = some (.ins C dx fs)) (c : Cls K C) (n : NoAttr K C f) (l : fs.lookup f = some v) {F : V → Prop} (q : F v) :
    ∃ a C dx fs v, V.ref p = .ref a ∧ H a = some (.ins C dx fs) ∧ Cls K C ∧ NoAttr K C f ∧ fs.lookup f = some v ∧ F v := ⟨p, C, dx, fs, v, rfl, h, c, n, l, q⟩
theorem w_sfld {f : Str} {tv : TE} {nx b' c' : St → Hp → Prop} {rt : VK} (q : tv σ H fun y H1 => ta σ H1 fun x H2 => ∃ a C dx fs, x = .ref a ∧ H2 a = some (.ins C dx fs) ∧ Cls K C ∧ NoAttr K C f ∧ fs.length < 1000 ∧ nx σ (upd H2 a (.ins C dx (putF f y fs)))) : sFld K ta tv f ⟨nx, rt, b', c'⟩ σ H := q
theorem w_sfldAt {f : Str} {p C dx : Addr} {fs fs' : List (Str × V)} {y : V} (h : H p = some (.ins C dx fs)) (c : Cls K C) (n : NoAttr K C f) (hl : fs.length < 1000) (e : putF f y fs = fs') {F : Hp → Prop} (q : F (upd H p (.ins C dx fs'))) :
    ∃ a C dx fs, V.ref p = .ref a ∧ H a = some (.ins C dx fs) ∧ Cls K C ∧ NoAttr K C f ∧ fs.length < 1000 ∧ F (upd H a (.ins C dx (putF f y fs))) := ⟨p, C, dx, fs, rfl, h, c, n, hl, by rw [e]; exact q⟩
theorem w_meth {C : Addr} {m : Str} {sp : Sp} {dvs : List V} {E : XK} {t : TA} (q : ta σ H fun x H1 => ∃ a dx fs, x = .ref a ∧ H1 a = some (.ins C dx fs) ∧ fs.lookup m = none ∧ t σ H1 fun vs H2 => sp (x :: (vs ++ dvs)) H2 Q E) : tMeth C m sp dvs E ta t σ H Q := q
theorem w_methAt {m : Str} {p C dx : Addr} {fs : List (Str × V)} {B : Prop} (h : H p = some (.ins C dx fs)) (l : fs.lookup m = none) (q : B) : ∃ a dx fs, V.ref p = .ref a ∧ H a = some (.ins C dx fs) ∧ fs.lookup m = none ∧ B := ⟨p, dx, fs, rfl, h, l, q⟩
theorem w_make {C : Addr} {sp : Sp} {dvs : List V} {E : XK} {t : TA} (q : t σ H fun vs H1 => ∀ x dx, H1 x = none → H1 dx = none → dx ≠ x → sp (.ref x :: (vs ++ dvs)) (upd (upd H1 dx (.own x)) x (.ins C dx [])) (fun v H2 => v = .non ∧ Q (.ref x) H2) E) : tMake C sp dvs E t σ H Q := q
theorem w_notInS {neg : Bool} {x : V} {p : Addr} {xs : List V} {b : Bool} (h : Sq b K H p xs) (hx : flatV x = true) (ha : xs.all flatV = true) (q : Q (.bl (if neg then !inV x xs else inV x xs)) H) : rIn K neg x (.ref p) H Q := ⟨p, xs, rfl, h.or, hx, ha, q⟩
theorem w_chain {r r' : R2} {tb tc : TE} (q : ta σ H fun x H1 => tb σ H1 fun y H2 => r x y H2 fun z H3 => ∃ k, z = .bl k ∧ if k = true then tc σ H3 fun w H4 => r' y w H4 Q else Q (.bl false) H3) : tChain r r' ta tb tc σ H Q := q
end
end L2

namespace L2
open PySem PySem.Spec PyProof.Rows
theorem RTup.upd {α : Type} {R : Rep α} (ht : RTup R) (hm : RMono R) {H : Hp} {D : Addr} {o : HO} {v : V} {x : α} (hD : NTup (H D)) (h : R H v x) : R (L2.upd H D o) v x := by
  have h1 := ht _ _ _ _ hD h
  rw [← hide_upd D H o] at h1
  exact hm _ _ _ _ (hide_same D _) h1
/-- a list that a loop fills: at D, its items relate to the data without the list itself -/
structure Filled {α : Type} (R : Rep α) (H0 H : Hp) (D : Addr) (ds : List α) : Prop where
  new : H0 D = none
  same : Same H0 H
  at_ : ∃ ys, H D = some (.lst ys) ∧ ys.length = ds.length ∧ ∀ (i : Nat) y d, ys[i]? = some y → ds[i]? = some d → R (hide D H) y d
theorem Filled.nil {α : Type} {R : Rep α} {H : Hp} {D : Addr} (h : H D = none) : Filled R H (L2.upd H D (.lst [])) D [] :=
  ⟨h, Same.new h, [], upd_same, rfl, fun i y d e => by simp at e⟩
theorem Filled.mono {α : Type} {R : Rep α} (hm : RMono R) {H0 H H' : Hp} {D : Addr} {ds : List α} (f : Filled R H0 H D ds) (s : Same H H') : Filled R H0 H' D ds := by
  obtain ⟨ys, e, hl, hr⟩ := f.at_
  exact ⟨f.new, f.same.trans s, ys, s _ _ e, hl, fun i y d h1 h2 => hm _ _ _ _ (hide_mono s) (hr i y d h1 h2)⟩
theorem Filled.push {α : Type} {R : Rep α} {H0 H : Hp} {D : Addr} {ds : List α} {d : α} {y : V} (f : Filled R H0 H D ds) (hy : R (hide D H) y d) : ∃ ys, H D = some (.lst ys) ∧ ys.length = ds.length ∧ Filled R H0 (L2.upd H D (.lst (ys ++ [y]))) D (ds ++ [d]) := by
  obtain ⟨ys, e, hl, hr⟩ := f.at_
  refine ⟨ys, e, hl, f.new, Same.mut f.same f.new, ys ++ [y], upd_same, by simp [hl], fun i y' d' h1 h2 => ?_⟩
  rw [hide_upd]
  by_cases hi : i < ys.length
  · rw [List.getElem?_append_left hi] at h1
    rw [List.getElem?_append_left (by omega)] at h2
    exact hr i y' d' h1 h2
  · have h3 := (List.getElem?_eq_some_iff.mp h1).1
    rw [List.length_append] at h3
    have ei : i = ys.length := by
      have : i < ys.length + 1 := h3
      omega
    subst ei
    rw [List.getElem?_append_right (Nat.le_refl _), Nat.sub_self] at h1
    rw [hl, List.getElem?_append_right (Nat.le_refl _), Nat.sub_self] at h2
    cases h1
    cases h2
    exact hy
theorem Filled.seq {α : Type} {R : Rep α} (hm : RMono R) {K : PySem.W.Frag} {H0 H : Hp} {D : Addr} {ds : List α} (f : Filled R H0 H D ds) : RSeq true K R H (.ref D) ds := by
  obtain ⟨ys, e, hl, hr⟩ := f.at_
  exact ⟨D, ys, rfl, Sq.lst e, hl, fun i y d h1 h2 => hm _ _ _ _ (hide_same D H) (hr i y d h1 h2)⟩
section
variable {K : PySem.W.Frag} {σ : St} {H : Hp} {N : St → Hp → Prop}
theorem w_pairG {i : Nat} {g : TG} {a : Addr} {x y : V} (h : Sq false K H a [x, y]) (q : g y (σ.set i (some x)) H N) : gTup K 2 (gCons (gName i) (gCons g gNil)) (.ref a) σ H N :=
  ⟨a, [x, y], rfl, h, rfl, x, [y], rfl, y, [], rfl, (by
    have : (fun σ' H' => gNil [] σ' H' N) = N := by
      funext σ' H'
      exact propext ⟨fun h => h.2, fun h => ⟨rfl, h⟩⟩
    rw [this]; exact q)⟩
theorem w_trip {i j k : Nat} {a : Addr} {x y z : V} (h : Sq false K H a [x, y, z]) (q : N (((σ.set i (some x)).set j (some y)).set k (some z)) H) : gTup K 3 (gCons (gName i) (gCons (gName j) (gCons (gName k) gNil))) (.ref a) σ H N :=
  ⟨a, [x, y, z], rfl, h, rfl, x, [y, z], rfl, y, [z], rfl, z, [], rfl, rfl, q⟩
theorem w_five {i1 i2 i3 i4 i5 : Nat} {a : Addr} {x1 x2 x3 x4 x5 : V} (h : Sq false K H a [x1, x2, x3, x4, x5]) (q : N (((((σ.set i1 (some x1)).set i2 (some x2)).set i3 (some x3)).set i4 (some x4)).set i5 (some x5)) H) :
    gTup K 5 (gCons (gName i1) (gCons (gName i2) (gCons (gName i3) (gCons (gName i4) (gCons (gName i5) gNil))))) (.ref a) σ H N :=
  ⟨a, [x1, x2, x3, x4, x5], rfl, h, rfl, x1, [x2, x3, x4, x5], rfl, x2, [x3, x4, x5], rfl, x3, [x4, x5], rfl, x4, [x5], rfl, x5, [], rfl, rfl, q⟩
theorem RSeq.five {α : Type} {R : Rep α} {v : V} {d0 d1 d2 d3 d4 : α} (h : RSeq false K R H v [d0, d1, d2, d3, d4]) : ∃ a x0 x1 x2 x3 x4, v = .ref a ∧ Sq false K H a [x0, x1, x2, x3, x4] ∧ R H x0 d0 ∧ R H x1 d1 ∧ R H x2 d2 ∧ R H x3 d3 ∧ R H x4 d4 := by
  obtain ⟨a, vs, e, hs, hl, hr⟩ := h
  match vs, hl with
  | [x0, x1, x2, x3, x4], _ => exact ⟨a, x0, x1, x2, x3, x4, e, hs, hr 0 _ _ rfl rfl, hr 1 _ _ rfl rfl, hr 2 _ _ rfl rfl, hr 3 _ _ rfl rfl, hr 4 _ _ rfl rfl⟩
theorem RSeq.lt {α : Type} {R : Rep α} {b : Bool} {v : V} {ds : List α} (h : RSeq b K R H v ds) : ∃ a vs, v = .ref a ∧ Sq b K H a vs ∧ vs.length = ds.length ∧ ∀ (i : Nat) y x, vs[i]? = some y → ds[i]? = some x → R H y x := h
/-- cuts of lists -/
theorem cutV_fromto {xs : List V} {a b : Nat} (h : a ≤ b) (hb : b ≤ xs.length) : cutV xs (some (a : Int)) (some (b : Int)) = (xs.drop a).take (b - a) := by
  unfold cutV
  rw [HT.sIx_nat, HT.sIx_nat, Nat.min_eq_left hb, Nat.min_eq_left (Nat.le_trans h hb)]
theorem cutV_upto {xs : List V} {b : Nat} (hb : b ≤ xs.length) : cutV xs none (some (b : Int)) = xs.take b := by
  unfold cutV
  rw [HT.sIx_none, HT.sIx_nat, Nat.min_eq_left hb, List.drop_zero, Nat.sub_zero]
theorem cutV_from {xs : List V} {a : Nat} (ha : a ≤ xs.length) : cutV xs (some (a : Int)) none = xs.drop a := by
  unfold cutV
  rw [HT.sIx_none, HT.sIx_nat, Nat.min_eq_left ha, List.take_of_length_le (by rw [List.length_drop]; omega)]
theorem w_slC {a : Addr} {xs ys : List V} {lo hi : Option Int} {Q : VK} (h : Sq true K H a xs) (e : cutV xs lo hi = ys) (q : ∀ p, H p = none → Q (.ref p) (L2.upd H p (.lst ys))) : rSlG K (.ref a) lo hi H Q :=
  .inl ⟨a, xs, rfl, h, fun p hp => by rw [e]; exact q p hp⟩
theorem cutV_int {xs : List V} {a b : Int} (h0 : 0 ≤ a) (h : a ≤ b) (hb : b ≤ xs.length) : cutV xs (some a) (some b) = (xs.drop a.toNat).take (b.toNat - a.toNat) := by
  obtain ⟨n, rfl⟩ := Int.eq_ofNat_of_zero_le h0
  obtain ⟨m, rfl⟩ := Int.eq_ofNat_of_zero_le (Int.le_trans h0 h)
  rw [Int.toNat_natCast, Int.toNat_natCast]
  exact cutV_fromto (by omega) (by omega)
theorem cutV_intTo {xs : List V} {b : Int} (h0 : 0 ≤ b) (hb : b ≤ xs.length) : cutV xs none (some b) = xs.take b.toNat := by
  obtain ⟨m, rfl⟩ := Int.eq_ofNat_of_zero_le h0
  rw [Int.toNat_natCast]
  exact cutV_upto (by omega)
/-- a cut of a list or of a tuple -/
theorem w_slAny {b : Bool} {a : Addr} {xs ys : List V} {lo hi : Option Int} {Q : VK} (h : Sq b K H a xs) (e : cutV xs lo hi = ys) (q : ∀ p H', Same H H' → Sq b K H' p ys → Q (.ref p) H') : rSlG K (.ref a) lo hi H Q := by
  cases b with
  | true => exact .inl ⟨a, xs, rfl, h, fun p hp => q _ _ (Same.new hp) (Sq.lst (by rw [upd_same, e]))⟩
  | false =>
    refine .inr ⟨a, xs, rfl, h, fun hw => ?_, fun _ p hp => q _ _ (Same.new hp) (Sq.tup (by rw [upd_same, e]))⟩
    have e2 : xs = ys := by
      rw [← e]
      unfold cutV
      rw [hw.1, hw.2, List.drop_zero, Nat.sub_zero, List.take_length]
    exact q _ _ (Same.refl _) (e2 ▸ h)
theorem rep_cut {α : Type} {R : Rep α} {vs : List V} {xs : List α} (hr : ∀ (i : Nat) y x, vs[i]? = some y → xs[i]? = some x → R H y x) (a n : Nat) : ∀ (i : Nat) y x, ((vs.drop a).take n)[i]? = some y → ((xs.drop a).take n)[i]? = some x → R H y x := fun i y x h1 h2 => by
  rw [List.getElem?_take] at h1 h2
  split at h1
  · rw [if_pos (by assumption), List.getElem?_drop] at h2
    rw [List.getElem?_drop] at h1
    exact hr _ _ _ h1 h2
  · cases h1
theorem rep_to {α : Type} {R : Rep α} {vs : List V} {xs : List α} (hr : ∀ (i : Nat) y x, vs[i]? = some y → xs[i]? = some x → R H y x) (n : Nat) : ∀ (i : Nat) y x, (vs.take n)[i]? = some y → (xs.take n)[i]? = some x → R H y x := rep_cut hr 0 n
/-- adding two lists -/
theorem w_catLL {l b : Addr} {xs zs : List V} {Q : VK} (h1 : H l = some (.lst xs)) (h2 : H b = some (.lst zs)) (hz : xs.length + zs.length ≤ sizeLine) (q : ∀ p, H p = none → Q (.ref p) (L2.upd H p (.lst (xs ++ zs)))) : rAddG K (.ref l) (.ref b) H Q :=
  .inr (.inr ⟨l, b, xs, zs, rfl, rfl, h1, h2, hz, q⟩)
end
end L2

namespace L2
open PySem PySem.Spec PyProof.Rows
/-! ### data without lists, equal to itself -/
mutual
theorem eqv_refl : ∀ d : PyData, d.canLay0 = true → PyData.eqv d d = true
  | .none, _ => by simp only [PyData.eqv]
  | .bool b, _ => by simp only [PyData.eqv, beq_self_eq_true]
  | .int i, _ => by simp only [PyData.eqv, beq_self_eq_true]
  | .str x, _ => by simp only [PyData.eqv, beq_self_eq_true]
  | .list xs, h => by
    simp only [PyData.eqv]
    exact eqvAll_refl xs (by simpa only [PyData.canLay0] using h)
  | .tuple xs, h => by
    simp only [PyData.eqv]
    exact eqvAll_refl xs (by simpa only [PyData.canLay0] using h)
  | .dict _, h => by simp only [PyData.canLay0] at h; cases h
theorem eqvAll_refl : ∀ ds : List PyData, PyData.canLayAll0 ds = true → PyData.eqvAll ds ds = true
  | [], _ => by simp only [PyData.eqvAll]
  | d :: r, h => by
    simp only [PyData.canLayAll0, Bool.and_eq_true] at h
    simp only [PyData.eqvAll, eqv_refl d h.1, eqvAll_refl r h.2, Bool.and_self]
end
/-- data of a kind: as PyData, laid, no deeper than n -/
structure Dat {α : Type} (K : PySem.W.Frag) (R : Rep α) (f : α → PyData) (n : Nat) : Prop where
  dp : ∀ H v d, R H v d → Dp K H v (f d)
  lay : ∀ d, (f d).canLay0 = true
  deep : ∀ d, (f d).depth ≤ n
theorem canLayAll_map {α : Type} {f : α → PyData} (h : ∀ d, (f d).canLay0 = true) : ∀ ds : List α, PyData.canLayAll0 (ds.map f) = true
  | [] => by simp only [List.map_nil, PyData.canLayAll0]
  | d :: r => by simp only [List.map_cons, PyData.canLayAll0, h d, canLayAll_map h r, Bool.and_self]
theorem depthAll_map {α : Type} {f : α → PyData} {n : Nat} (h : ∀ d, (f d).depth ≤ n) : ∀ ds : List α, PyData.depthAll (ds.map f) ≤ n
  | [] => by simp only [List.map_nil, PyData.depthAll]; exact Nat.zero_le _
  | d :: r => by
    simp only [List.map_cons, PyData.depthAll]
    exact Nat.max_le.mpr ⟨h d, depthAll_map h r⟩
theorem dpAll_map {α : Type} {K : PySem.W.Frag} {R : Rep α} {f : α → PyData} {H : Hp} (h : ∀ v d, R H v d → Dp K H v (f d)) : ∀ {vs : List V} {ds : List α}, vs.length = ds.length → (∀ (i : Nat) y x, vs[i]? = some y → ds[i]? = some x → R H y x) → DpAll K H vs (ds.map f)
  | [], [], _, _ => .nil
  | v :: vs, d :: ds, hl, hr => .cons (h v d (hr 0 v d rfl rfl)) (dpAll_map h (by simpa using hl) fun i y x h1 h2 => hr (i + 1) y x (by simpa using h1) (by simpa using h2))
theorem Dat.seq {α : Type} {K : PySem.W.Frag} {R : Rep α} {f : α → PyData} {n : Nat} (h : Dat K R f n) : Dat K (RSeq false K R) (fun ds => .tuple (ds.map f)) (n + 1) where
  dp := fun H v ds ⟨a, vs, e, hs, hl, hr⟩ => by subst e; exact .tup hs (dpAll_map (h.dp H) hl hr)
  lay := fun ds => by simp only [PyData.canLay0]; exact canLayAll_map h.lay ds
  deep := fun ds => by simp only [PyData.depth]; exact Nat.succ_le_succ (depthAll_map h.deep ds)
theorem Dat.vec {K : PySem.W.Frag} : Dat K (RVec false K) (fun ns => .tuple (ns.map PyData.int)) 1 where
  dp := fun H v ns ⟨a, e, hs⟩ => by subst e; exact .tup hs dpAll_ints
  lay := fun ns => by simp only [PyData.canLay0]; exact canLay_ints ns
  deep := fun ns => by simp only [PyData.depth, depth_ints]; exact Nat.le_refl _
theorem Dat.pair {α β : Type} {K : PySem.W.Frag} {R : Rep α} {S : Rep β} {f : α → PyData} {g : β → PyData} {n : Nat} (h : Dat K R f n) (h' : Dat K S g n) : Dat K (RPair K R S) (fun p => .tuple [f p.1, g p.2]) (n + 1) where
  dp := fun H v p ⟨a, x, y, e, hs, h1, h2⟩ => by subst e; exact .tup hs (.cons (h.dp _ _ _ h1) (.cons (h'.dp _ _ _ h2) .nil))
  lay := fun p => by simp only [PyData.canLay0, PyData.canLayAll0, h.lay, h'.lay, Bool.and_self]
  deep := fun p => by
    simp only [PyData.depth, PyData.depthAll]
    exact Nat.succ_le_succ (Nat.max_le.mpr ⟨h.deep _, Nat.max_le.mpr ⟨h'.deep _, Nat.zero_le _⟩⟩)
theorem Dat.up {α : Type} {K : PySem.W.Frag} {R : Rep α} {f : α → PyData} {n m : Nat} (h : Dat K R f n) (hm : n ≤ m) : Dat K R f m := ⟨h.dp, h.lay, fun d => Nat.le_trans (h.deep d) hm⟩
theorem Dat.shaped {α : Type} {K : PySem.W.Frag} {R : Rep α} {f : α → PyData} {n : Nat} (h : Dat K R f n) (hn : n ≤ 64) (d : α) : SeqAt.shaped (f d) = true := by
  unfold SeqAt.shaped
  rw [h.lay, decide_eq_true (Nat.le_trans (h.deep d) hn)]
  rfl
theorem w_neSame {α : Type} {K : PySem.W.Frag} {H : Hp} {Q : VK} {R : Rep α} {f : α → PyData} {n : Nat} (h : Dat K R f n) (hn : n ≤ 64) {x y : V} {d : α} (hx : R H x d) (hy : R H y d) (q : Q (.bl false) H) : rNeG K x y H Q :=
  w_neD (h.dp _ _ _ hx) (h.dp _ _ _ hy) (h.shaped hn d) (h.shaped hn d) (by rw [eqv_refl _ (h.lay d)]; exact q)
theorem w_eqSame {α : Type} {K : PySem.W.Frag} {H : Hp} {Q : VK} {R : Rep α} {f : α → PyData} {n : Nat} (h : Dat K R f n) (hn : n ≤ 64) {x y : V} {d : α} (hx : R H x d) (hy : R H y d) (q : Q (.bl true) H) : rEqG K x y H Q :=
  w_eqD (h.dp _ _ _ hx) (h.dp _ _ _ hy) (h.shaped hn d) (h.shaped hn d) (by rw [eqv_refl _ (h.lay d)]; exact q)
theorem sIx_neg (n d : Nat) : HT.sIx n d (some (-1)) = n - 1 := by
  show (if (-1 : Int) < 0 then ((-1 : Int) + (n : Int)).toNat else min (-1 : Int).toNat n) = n - 1
  rw [if_pos (by decide)]
  omega
theorem cutV_neg {xs : List V} : cutV xs none (some (-1)) = xs.take (xs.length - 1) := by
  unfold cutV
  rw [HT.sIx_none, sIx_neg, List.drop_zero, Nat.sub_zero]
theorem cutV_negFrom {xs : List V} : cutV xs (some (-1)) none = xs.drop (xs.length - 1) := by
  unfold cutV
  rw [HT.sIx_none, sIx_neg, List.take_of_length_le (by rw [List.length_drop]; omega)]
end L2

namespace L2
open PySem PySem.Spec PyProof.Rows
/-! ### the rules that name the written part, K said (within a comprehension's block it is told by rfl) -/
section
variable {X : Cx} {K : PySem.W.Frag} {a b : Expr} {ta tb : TE} {pos : Pos}
theorem k_addG (h : X.K = K) : OpR X (binaryOp .Add) (rAddG K) := h ▸ op_addG
theorem k_eqG (h : X.K = K) (hu : X.A.units + 64 < cLine) : OpR X (compareOp .Eq) (rEqG K) := h ▸ op_eqG hu
theorem k_neG (h : X.K = K) (hu : X.A.units + 64 < cLine) : OpR X (compareOp .NotEq) (rNeG K) := h ▸ op_neG hu
theorem k_inS (h : X.K = K) : OpR X (compareOp .In) (rIn K false) := h ▸ op_in_seq
theorem k_notInS (h : X.K = K) : OpR X (compareOp .NotIn) (rIn K true) := h ▸ op_notIn_seq
theorem k_slG (h : X.K = K) : SlR X (rSlG K) := h ▸ sl_seqG
theorem k_ix (h : X.K = K) : IxR X (rIx K) := h ▸ ix_seq
theorem k_sumS (h : X.K = K) (hc : X.calm = true) : CallR X (.builtin "sum") (rSumS K) := h ▸ cr_sumS hc
theorem k_lenS (h : X.K = K) : CallR X (.builtin "len") (rLenS K) := h ▸ cr_lenS
theorem k_listS (h : X.K = K) : CallR X (.type "list") (rListS K) := h ▸ cr_listS
theorem k_tupS (h : X.K = K) : CallR X (.type "tuple") (rTupS K) := h ▸ cr_tupS
theorem k_isi (h : X.K = K) : CallR X (.builtin "isinstance") (rIsi K) := h ▸ call_isi
theorem k_max (h : X.K = K) (hc : X.calm = true) : CallR X (.builtin "max") (rMax K) := h ▸ cr_max hc
theorem k_min (h : X.K = K) (hc : X.calm = true) : CallR X (.builtin "min") (rMin K) := h ▸ cr_min hc
theorem k_index (h : X.K = K) : MtR X "list.index" (rIndex K) := h ▸ mt_index
theorem k_tru {e : Expr} {te : TE} (h : X.K = K) (he : PE X e te) (hi : ∀ whole, isTrue e X.env whole = (do let v ← whole; standAt e.pos; holding [v] (truthy v))) : PT X e (tTru K te) := h ▸ pt_tru he hi
theorem k_fld {e : Expr} {f : Str} (h : X.K = K) (he : PE X e ta) (hb : attributeBase e f X.env (eval e X.env) = eval e X.env) : PE X (.Attribute e f pos) (tFld K ta f) := h ▸ pe_fld he hb
theorem k_sfld {o value : Expr} {f : Str} {pos' : Pos} {tv : TE} (h : X.K = K) (ha : PE X o ta) (hv : PE X value tv) (hs : swapsWith value (some (.Attribute o f pos')) pos.line X.env = pure false) : PS X (.Assign [.Attribute o f pos'] value pos) (sFld K ta tv f) := h ▸ ps_fld ha hv hs
theorem k_tup {es : List Expr} {kk : Nat} {t : TGs} {n : Nat} (h : X.K = K) (hc : X.calm = true) (hg : PGs X es t) (hn : (assignEach es X.env).length = n := by rfl) (hst : (assignEach es X.env).findIdx? (·.1) = none := by rfl) :
    PG X (.Tuple es kk pos) (gTup K n t) := h ▸ pg_tup hc hg hn hst
theorem k_seqS {tg l : Expr} {tl : TE} (h : X.K = K) (hl : PE X l tl) : PI X tg l (iSeq K tl) := h ▸ pi_seqS hl
theorem k_enumS {e : Expr} {ta : TA} {p pos tpos : Pos} {elts : List Expr} {kk : Nat} (h : X.K = K) (hg : Gl X "enumerate") (hm : X.mg "enumerate" = none) (ha : PA X [e] ta) (hs : starEach [e] X.env = [(false, eval e X.env)] := by rfl) :
    PI X (.Tuple elts kk tpos) (.Call (.Name "enumerate" p) [e] [] pos) (iEnumS K ta) := h ▸ pi_enumS hg hm ha hs
theorem k_zipS {e e2 : Expr} {ta : TA} {p pos tpos : Pos} {elts : List Expr} {kk : Nat} (h : X.K = K) (hg : Gl X "zip") (hm : X.mg "zip" = none) (ha : PA X [e, e2] ta)
    (hs : starEach [e, e2] X.env = (false, eval e X.env) :: starEach [e2] X.env := by rfl) (hpl : (backTo pos (starEach [e2] X.env)).any (·.1) = false := by rfl) :
    PI X (.Tuple elts kk tpos) (.Call (.Name "zip" p) [e, e2] [] pos) (iZipS K ta) := h ▸ pi_zipS hg hm ha hs hpl
theorem k_bm {o e : Expr} {es : List Expr} {to : TE} {t : TA} {name : Str} {apos cpos : Pos} {T id : String} {r : V → List V → Hp → VK → Prop} (h : X.K = K)
    (pa : PlainAttrs T) (slot : Slot T name id) (hty : typeOf (.builtin id) = pure (.type "method_descriptor")) (hm : MtR X id r) (ho : PE X o to) (ha : PA X (e :: es) t)
    (hbase : attributeBase o name X.env (eval o X.env) = eval o X.env := by rfl)
    (hfew : ((backTo cpos (starEach (e :: es) X.env)).all (fun x => !x.1) && (backToKw cpos (keywordEach [] X.env)).all (fun x => x.1.isSome)
      && decide ((e :: es).length + ([] : List Keyword).length + (if ([] : List Keyword).isEmpty then 0 else 1) < 30)) = true := by rfl)
    (hline : (apos.endLine == cpos.line) = true := by rfl) (hs : starEach (e :: es) X.env = (false, eval e X.env) :: starEach es X.env := by rfl) (hplain : (backTo cpos (starEach es X.env)).any (·.1) = false := by rfl) :
    PE X (.Call (.Attribute o name apos) (e :: es) [] cpos) (tBM K T r to t) := h ▸ pe_bm pa slot hty hm ho ha hbase hfew hline hs hplain
end
end L2

namespace L2
open PySem PySem.Spec PyProof.Rows
/-! ### dicts with texts as keys: read, written, made -/
theorem u1 {n : Nat} (h : n + 64 < cLine) : n + 1 < cLine := by omega
section
variable {K : PySem.W.Frag} {σ : St} {H : Hp} {v : V} {Q : VK} {td ty tv : TE} {a : Addr} {kvs kvs' : List (Key × V)} {s : Str}
theorem w_dget (q : td σ H fun x H1 => ty σ H1 fun y H2 => ∃ a v, x = .ref a ∧ DGet H2 a y (some v) ∧ Q v H2) : tDGet td ty σ H Q := q
theorem w_dgetAt (h : H a = some (.dK kvs)) (l : valV kvs (.inr s) = some v) {F : V → Prop} (q : F v) : ∃ a' v', V.ref a = .ref a' ∧ DGet H a' (.str s) (some v') ∧ F v' := ⟨a, v, rfl, by rw [← l]; exact DGet.k (k := .inr s) h, q⟩
theorem w_dput {nx b' c' : St → Hp → Prop} {rt : VK} (q : tv σ H fun v H1 => td σ H1 fun x H2 => ty σ H2 fun y H3 => ∃ a H4, x = .ref a ∧ DPut H3 a y v H4 ∧ nx σ H4) : sDPut td ty tv ⟨nx, rt, b', c'⟩ σ H := q
theorem w_dputAt (h : H a = some (.dK kvs)) (hl : kvs.length < 1000) (e : putK kvs (.inr s) v = kvs') {F : Hp → Prop} (q : F (upd H a (.dK kvs'))) : ∃ a' H4, V.ref a = .ref a' ∧ DPut H a' (.str s) v H4 ∧ F H4 :=
  ⟨a, _, rfl, DPut.k (k := .inr s) h (by rw [sizeLine_eq]; omega), by rw [e]; exact q⟩
theorem w_disp {trs : List (TE × TE)} (q : ∀ p, H p = none → tPairs trs σ (upd H p (.dK [])) fun ps H2 => H2 p = some (.dK []) ∧ ∃ kvs : List (Key × V), ps = kvs.map (fun kv => (kV kv.1, kv.2)) ∧ kvs.length ≤ 15 ∧ Q (.ref p) (upd H2 p (.dK (mergeK [] kvs)))) : tDisp trs σ H Q := q
theorem w_pair0 {Qp : List (V × V) → Hp → Prop} (q : Qp [] H) : tPairs [] σ H Qp := q
theorem w_pair1 {Qp : List (V × V) → Hp → Prop} {tk tv : TE} {r : List (TE × TE)} (q : tk σ H fun x H1 => tv σ H1 fun y H2 => tPairs r σ H2 fun ps H3 => Qp ((x, y) :: ps) H3) : tPairs ((tk, tv) :: r) σ H Qp := q
end
/-- what stands elsewhere than at t stays -/
def Fr (t : Addr) (H H' : Hp) : Prop := ∀ b o, b ≠ t → H b = some o → H' b = some o
theorem Fr.refl (t : Addr) (H : Hp) : Fr t H H := fun _ _ _ e => e
theorem Fr.trans {t : Addr} {H H' H'' : Hp} (h : Fr t H H') (h' : Fr t H' H'') : Fr t H H'' := fun b o n e => h' b o n (h b o n e)
theorem Fr.upd {t : Addr} {H H' : Hp} (h : Fr t H H') (o : HO) : Fr t H (upd H' t o) := fun b u n e => by
  rw [upd_ne n]
  exact h b u n e
theorem Fr.same {t : Addr} {H H' : Hp} (h : Same H H') : Fr t H H' := fun b o _ e => h b o e
theorem Fr.sq {t : Addr} {H H' : Hp} {b : Bool} {K : PySem.W.Frag} {a : Addr} {xs : List V} (f : Fr t H H') (ht : ∃ kvs, H t = some (.dK kvs)) (h : Sq b K H a xs) : Sq b K H' a xs := by
  obtain ⟨kvs, ht⟩ := ht
  cases b with
  | true =>
    have h : SqL K H a xs := h
    rcases h with (h | ⟨o, h⟩) | h
    · exact .inl (.inl (f _ _ (fun e => by rw [e, ht] at h; cases h) h))
    · exact .inl (.inr ⟨o, f _ _ (fun e => by rw [e, ht] at h; cases h) h⟩)
    · exact .inr h
  | false =>
    have h : SqT K H a xs := h
    rcases h with (h | ⟨o, h⟩) | h
    · exact .inl (.inl (f _ _ (fun e => by rw [e, ht] at h; cases h) h))
    · exact .inl (.inr ⟨o, f _ _ (fun e => by rw [e, ht] at h; cases h) h⟩)
    · exact .inr h
/-- the tape: its cells, place, great number, how many left, seed, turn -/
def tapeF (l : Addr) (at_ gr le se tu : Int) : List (Key × V) := [(.inr "cells", .ref l), (.inr "at", .int at_), (.inr "great", .int gr), (.inr "left", .int le), (.inr "seed", .int se), (.inr "turn", .int tu)]
def IsTape (H : Hp) (t l : Addr) : Prop := ∃ (cs : List Int) (at_ gr le se tu : Int), H t = some (.dK (tapeF l at_ gr le se tu)) ∧ H l = some (.lst (cs.map V.int)) ∧ 0 ≤ at_
theorem IsTape.same {H H' : Hp} {t l : Addr} (s : Same H H') (h : IsTape H t l) : IsTape H' t l := by
  obtain ⟨cs, a, b, c, d, e, h1, h2, h3⟩ := h
  exact ⟨cs, a, b, c, d, e, s _ _ h1, s _ _ h2, h3⟩
theorem IsTape.upd {H : Hp} {t l D : Addr} {o : HO} (h1 : D ≠ t) (h2 : D ≠ l) (h : IsTape H t l) : IsTape (upd H D o) t l := by
  obtain ⟨cs, a, b, c, d, e, g1, g2, g3⟩ := h
  exact ⟨cs, a, b, c, d, e, (upd_ne (Ne.symm h1)).trans g1, (upd_ne (Ne.symm h2)).trans g2, g3⟩
theorem val_neg {j k : Key} {u : V} {kvs : List (Key × V)} (h : ¬ j = k) : valV ((j, u) :: kvs) k = valV kvs k := valV_neg h
theorem val_pos {k : Key} {u : V} {kvs : List (Key × V)} : valV ((k, u) :: kvs) k = some u := valV_pos rfl
theorem tape_cells {l : Addr} {at_ gr le se tu : Int} : valV (tapeF l at_ gr le se tu) (.inr "cells") = some (.ref l) := val_pos
theorem tape_at {l : Addr} {at_ gr le se tu : Int} : valV (tapeF l at_ gr le se tu) (.inr "at") = some (.int at_) := (val_neg (by decide +kernel)).trans val_pos
theorem tape_great {l : Addr} {at_ gr le se tu : Int} : valV (tapeF l at_ gr le se tu) (.inr "great") = some (.int gr) := (val_neg (by decide +kernel)).trans ((val_neg (by decide +kernel)).trans val_pos)
theorem tape_left {l : Addr} {at_ gr le se tu : Int} : valV (tapeF l at_ gr le se tu) (.inr "left") = some (.int le) := (val_neg (by decide +kernel)).trans ((val_neg (by decide +kernel)).trans ((val_neg (by decide +kernel)).trans val_pos))
theorem tape_seed {l : Addr} {at_ gr le se tu : Int} : valV (tapeF l at_ gr le se tu) (.inr "seed") = some (.int se) := (val_neg (by decide +kernel)).trans ((val_neg (by decide +kernel)).trans ((val_neg (by decide +kernel)).trans ((val_neg (by decide +kernel)).trans val_pos)))
theorem tape_turn {l : Addr} {at_ gr le se tu : Int} : valV (tapeF l at_ gr le se tu) (.inr "turn") = some (.int tu) := (val_neg (by decide +kernel)).trans ((val_neg (by decide +kernel)).trans ((val_neg (by decide +kernel)).trans ((val_neg (by decide +kernel)).trans ((val_neg (by decide +kernel)).trans val_pos))))
/-- a store at a key that is there -/
def replK (kvs : List (Key × V)) (k : Key) (v : V) : List (Key × V) := kvs.map fun kv => if kv.1 = k then (kv.1, v) else kv
theorem putK_repl {kvs : List (Key × V)} {k : Key} {v u : V} (h : valV kvs k = some u) : putK kvs k v = replK kvs k v := by
  unfold putK
  rw [valV_any, h]
  rfl
theorem repl_pos {kvs : List (Key × V)} {k : Key} {v u : V} : replK ((k, u) :: kvs) k v = (k, v) :: replK kvs k v := by
  show (if k = k then _ else _) :: _ = _
  rw [if_pos rfl]; rfl
theorem repl_neg {kvs : List (Key × V)} {k j : Key} {v u : V} (h : ¬ j = k) : replK ((j, u) :: kvs) k v = (j, u) :: replK kvs k v := by
  show (if j = k then _ else _) :: _ = _
  rw [if_neg h]; rfl
theorem tape_setAt {l : Addr} {at_ gr le se tu z : Int} : putK (tapeF l at_ gr le se tu) (.inr "at") (.int z) = tapeF l z gr le se tu := by
  rw [putK_repl tape_at]; unfold tapeF
  rw [repl_neg (by decide +kernel), repl_pos, repl_neg (by decide +kernel), repl_neg (by decide +kernel), repl_neg (by decide +kernel), repl_neg (by decide +kernel)]; rfl
theorem tape_setGreat {l : Addr} {at_ gr le se tu z : Int} : putK (tapeF l at_ gr le se tu) (.inr "great") (.int z) = tapeF l at_ z le se tu := by
  rw [putK_repl tape_great]; unfold tapeF
  rw [repl_neg (by decide +kernel), repl_neg (by decide +kernel), repl_pos, repl_neg (by decide +kernel), repl_neg (by decide +kernel), repl_neg (by decide +kernel)]; rfl
theorem tape_setLeft {l : Addr} {at_ gr le se tu z : Int} : putK (tapeF l at_ gr le se tu) (.inr "left") (.int z) = tapeF l at_ gr z se tu := by
  rw [putK_repl tape_left]; unfold tapeF
  rw [repl_neg (by decide +kernel), repl_neg (by decide +kernel), repl_neg (by decide +kernel), repl_pos, repl_neg (by decide +kernel), repl_neg (by decide +kernel)]; rfl
theorem tape_setSeed {l : Addr} {at_ gr le se tu z : Int} : putK (tapeF l at_ gr le se tu) (.inr "seed") (.int z) = tapeF l at_ gr le z tu := by
  rw [putK_repl tape_seed]; unfold tapeF
  rw [repl_neg (by decide +kernel), repl_neg (by decide +kernel), repl_neg (by decide +kernel), repl_neg (by decide +kernel), repl_pos, repl_neg (by decide +kernel)]; rfl
theorem tape_setTurn {l : Addr} {at_ gr le se tu z : Int} : putK (tapeF l at_ gr le se tu) (.inr "turn") (.int z) = tapeF l at_ gr le se z := by
  rw [putK_repl tape_turn]; unfold tapeF
  rw [repl_neg (by decide +kernel), repl_neg (by decide +kernel), repl_neg (by decide +kernel), repl_neg (by decide +kernel), repl_neg (by decide +kernel), repl_pos]; rfl
theorem tape_len {l : Addr} {at_ gr le se tu : Int} : (tapeF l at_ gr le se tu).length < 1000 := by show 6 < 1000; omega
end L2

namespace L2
open PySem PySem.Spec PyProof.Rows
/-! ### o[i] += e in lists; comprehensions with any state, with or without a test -/
def rGetL : V → V → Hp → VK → Prop := fun o i H Q => ∃ p xs k x, o = .ref p ∧ i = .int k ∧ 0 ≤ k ∧ H p = some (.lst xs) ∧ xs[k.toNat]? = some x ∧ Q x H
theorem get_list {X : Cx} : PGet X rGetL := by
  intro pins s σ H o i ov iv Q I ro ri h
  obtain ⟨p, xs, k, x, rfl, rfl, h0, hp, hx, q⟩ := h
  cases ro
  obtain ⟨t, rfl⟩ := ri
  obtain ⟨its, r, pl, hz⟩ := I.list (SqL.of hp)
  obtain ⟨w, ew, rw'⟩ := r.get hx
  have h1 := (List.getElem?_eq_some_iff.mp hx).1
  rw [sizeLine_eq] at hz
  exact wpAny_getItem_list pl.isList h0 (by omega) (by simpa using ew) ⟨x, H, I, rw', q⟩
section
variable {K : PySem.W.Frag} {σ : St} {H : Hp} {tt : TT} {te : TE} {g : TG} {vs : List Nat} {Q : VK}
theorem w_augS {to ti te : TE} {tget : V → V → Hp → VK → Prop} {tip : TIp} {tset : TSet} {nx b' c' : St → Hp → Prop} {rt : VK} (q : to σ H fun o H1 => ti σ H1 fun i H2 => tget o i H2 fun x H3 => te σ H3 fun y H4 => tip x y H4 fun z H5 => tset o i z H5 fun H6 => nx σ H6) : tAugS to ti te tget tip tset ⟨nx, rt, b', c'⟩ σ H := q
theorem w_prop {C : Addr} {sp : Sp} {dvs : List V} {E : XK} {ta : TE} (q : ta σ H fun x H1 => ∃ a dx fs, x = .ref a ∧ H1 a = some (.ins C dx fs) ∧ sp (.ref a :: dvs) H1 Q E) : tProp C sp dvs E ta σ H Q := q
theorem w_propAt {p C dx : Addr} {fs : List (Str × V)} {F : Addr → Prop} (h : H p = some (.ins C dx fs)) (q : F p) : ∃ a dx fs, V.ref p = .ref a ∧ H a = some (.ins C dx fs) ∧ F a := ⟨p, dx, fs, rfl, h, q⟩
theorem w_lstRg {t : L2.St → Hp → (Int → Int → Hp → Prop) → Prop} (q : t σ H fun a b H1 => RgOk a b ∧ ∀ q, H1 q = none → Q (.ref q) (upd H1 q (.lst (rgV a b)))) : tLstRg t σ H Q := q
theorem w_tupRg {t : L2.St → Hp → (Int → Int → Hp → Prop) → Prop} (q : t σ H fun a b H1 => RgOk a b ∧ ∀ q, H1 q = none → Q (.ref q) (upd H1 q (.tup (rgV a b)))) : tTupRg t σ H Q := q
theorem w_rg1 {ta : TE} {QR : Int → Int → Hp → Prop} (q : ta σ H fun x H1 => ∃ n, x = .int n ∧ QR 0 n H1) : tRg1 ta σ H QR := q
theorem w_rg2 {ta tb : TE} {QR : Int → Int → Hp → Prop} (q : ta σ H fun x H1 => tb σ H1 fun y H2 => ∃ i j, x = .int i ∧ y = .int j ∧ QR i j H2) : tRg2 ta tb σ H QR := q
theorem w_getI {p : Addr} {ns : List Int} {k : Int} (h : H p = some (.lst (ns.map V.int))) (h0 : 0 ≤ k) (h1 : k < ns.length) (q : Q (.int (nth ns k)) H) : rGetL (.ref p) (.int k) H Q := by
  refine ⟨p, _, k, .int (nth ns k), rfl, rfl, h0, h, ?_, q⟩
  have e : k = ((k.toNat : Nat) : Int) := (Int.toNat_of_nonneg h0).symm
  rw [vec_get (ns := ns) (i := k.toNat) (by omega), ← e]
theorem l_compG {J : It} {n : Nat} {G : Hp → Prop} {Y : Nat → Hp → V → Hp → Prop} (w : Walk J n G Y) (hz : n < sizeLine) (Sv : Addr → Nat → List V → Hp → Prop) (h0 : ∀ D, H D = none → Sv D 0 [] (upd H D (.lst []))) (hG : ∀ D i acc H', Sv D i acc H' → G H')
    (hs : ∀ i x H1 H2 D acc (NT : VK) (NF : Hp → Prop), i < n → H D = none → Sv D i acc H1 → H1 D = some (.lst acc) → acc.length ≤ i → Y i H1 x H2 → (∀ y H5, H5 D = some (.lst acc) → Sv D (i + 1) (acc ++ [y]) (upd H5 D (.lst (acc ++ [y]))) → NT y H5) →
      (∀ H4, H4 D = some (.lst acc) → Sv D (i + 1) acc H4 → NF H4) → g x (wipe σ vs) H2 fun σ2 H3 => wipe σ2 vs = wipe σ vs ∧ tt σ2 H3 fun b H4 => if b = true then te σ2 H4 NT else NF H4)
    (k : ∀ D H' ys, H D = none → Sv D n ys H' → H' D = some (.lst ys) → ys.length ≤ n → Q (.ref D) H') : CompOk J g tt te vs σ H Q := by
  intro D hD
  refine lc_it w (fun i H' => ∃ acc, H' D = some (.lst acc) ∧ acc.length ≤ i ∧ Sv D i acc H') ⟨[], upd_same, Nat.le_refl _, h0 D hD⟩ (fun i H' _ ⟨acc, _, _, h⟩ => hG D i acc H' h) ?_ ?_
  · rintro i x H1 H2 hi ⟨acc, e, hl, st⟩ hy
    exact hs i x H1 H2 D acc _ _ hi hD st e hl hy (fun y H5 e5 s5 => ⟨acc, e5, Nat.lt_of_le_of_lt hl (Nat.lt_trans hi hz), acc ++ [y], upd_same, by rw [List.length_append, List.length_singleton]; omega, s5⟩) (fun H4 e4 s4 => ⟨acc, e4, by omega, s4⟩)
  · rintro H' ⟨acc, e, hl, st⟩
    exact k D H' acc hD st e hl
/-- for .. in range(n), of any state -/
theorem l_compGR {n : Int} {j : Nat} (h1 : -(2 ^ 62) ≤ n) (h2 : n < 16000000) (Sv : Addr → Nat → List V → Hp → Prop) (hw : ∀ x : V, wipe ((wipe σ vs).set j (some x)) vs = wipe σ vs) (h0 : ∀ D, H D = none → Sv D 0 [] (upd H D (.lst [])))
    (hs : ∀ (i : Nat) H1 D acc (NT : VK) (NF : Hp → Prop), (i : Int) < n → H D = none → Sv D i acc H1 → H1 D = some (.lst acc) → acc.length ≤ i → (∀ y H5, H5 D = some (.lst acc) → Sv D (i + 1) (acc ++ [y]) (upd H5 D (.lst (acc ++ [y]))) → NT y H5) →
      (∀ H4, H4 D = some (.lst acc) → Sv D (i + 1) acc H4 → NF H4) → tt ((wipe σ vs).set j (some (.int (i : Int)))) H1 fun b H4 => if b = true then te ((wipe σ vs).set j (some (.int (i : Int)))) H4 NT else NF H4)
    (k : ∀ D H' ys, H D = none → Sv D n.toNat ys H' → H' D = some (.lst ys) → ys.length ≤ n.toNat → Q (.ref D) H') :
    ∃ j' : Int, [V.int n] = [.int j'] ∧ -(2 ^ 62) ≤ j' ∧ j' < 2 ^ 62 ∧ CompOk (Itr 0 j'.toNat) (gName j) tt te vs σ H Q := by
  refine ⟨n, rfl, h1, by omega, l_compG (walk_range (lo := 0) (n := n.toNat)) (by rw [sizeLine_eq]; omega) Sv h0 (fun _ _ _ _ _ => trivial) (fun i x H1 H2 D acc NT NF hi hD st e1 hl hy hT hF => ?_) k⟩
  obtain ⟨e, ex⟩ := hy
  subst e ex
  show wipe ((wipe σ vs).set j (some (.int (0 + (i : Int))))) vs = wipe σ vs ∧ tt ((wipe σ vs).set j (some (.int (0 + (i : Int))))) _ fun b H4 => if b = true then te ((wipe σ vs).set j (some (.int (0 + (i : Int))))) H4 NT else NF H4
  rw [Int.zero_add]
  exact ⟨hw _, hs i _ D acc NT NF (by omega) hD st e1 hl hT hF⟩
/-- for .. in a list or a tuple, of any state -/
theorem l_compGS {b : Bool} {a : Addr} {j : Nat} (xs : List V) (hz : xs.length < sizeLine) (Sv : Addr → Nat → List V → Hp → Prop) (hx : Sq b K H a xs) (hw : ∀ x : V, wipe ((wipe σ vs).set j (some x)) vs = wipe σ vs) (h0 : ∀ D, H D = none → Sv D 0 [] (upd H D (.lst []))) (hG : ∀ D i acc H', Sv D i acc H' → Sq b K H' a xs)
    (hs : ∀ (i : Nat) x H1 D acc (NT : VK) (NF : Hp → Prop), i < xs.length → xs[i]? = some x → H D = none → Sv D i acc H1 → H1 D = some (.lst acc) → acc.length ≤ i → (∀ y H5, H5 D = some (.lst acc) → Sv D (i + 1) (acc ++ [y]) (upd H5 D (.lst (acc ++ [y]))) → NT y H5) →
      (∀ H4, H4 D = some (.lst acc) → Sv D (i + 1) acc H4 → NF H4) → tt ((wipe σ vs).set j (some x)) H1 fun b H4 => if b = true then te ((wipe σ vs).set j (some x)) H4 NT else NF H4)
    (k : ∀ D H' ys, H D = none → Sv D xs.length ys H' → H' D = some (.lst ys) → ys.length ≤ xs.length → Q (.ref D) H') :
    ∃ a', V.ref a = .ref a' ∧ ((∃ xs, SqL K H a' xs) ∧ CompOk (Itl K a') (gName j) tt te vs σ H Q ∨ (∃ xs, SqT K H a' xs) ∧ CompOk (Itt K a') (gName j) tt te vs σ H Q) := by
  refine ⟨a, rfl, ?_⟩
  cases b with
  | true =>
    refine .inl ⟨⟨xs, hx⟩, l_compG (walk_list (xs := xs)) hz Sv h0 hG (fun i x H1 H2 D acc NT NF hi hD st e1 hl hy hT hF => ?_) k⟩
    obtain ⟨e, ex⟩ := hy
    subst e
    exact ⟨hw _, hs i x _ D acc NT NF hi ex hD st e1 hl hT hF⟩
  | false =>
    refine .inr ⟨⟨xs, hx⟩, l_compG (walk_tup (xs := xs)) hz Sv h0 hG (fun i x H1 H2 D acc NT NF hi hD st e1 hl hy hT hF => ?_) k⟩
    obtain ⟨e, ex⟩ := hy
    subst e
    exact ⟨hw _, hs i x _ D acc NT NF hi ex hD st e1 hl hT hF⟩
end
end L2

namespace PySem.W
open PySem PySem.Calls PyProof.Rows Builtin
/-! ### == and != of instances whose class has its own __eq__ -/
section
variable {prog : Program} {w : World} {A : Around} {E : Value → Shared → Prop} {s : Shared} {K : Frag} {x C L f : Addr} {h₀ : Heap} {m : Str → Option Value} {ox : Obj} {od : Option Obj} {name : Str} {b tb : Value}
theorem ifBound_B {M : Model} {args : List Value} {id : String} {Q : Option Value → Shared → Prop} (X : K.In s.heap) (I : InstAt s.heap x ox C od) (hs : findIn K (.ref C) name = some (some (.builtin id)))
    (hb : ∀ self, bindSpecial (.builtin id) self = pure (.builtin id, [self])) (h : wpAny M A (call (.builtin id) (.ref x :: args)) (fun v => Q (some v)) E s) : wpAny M A (callSpecialIfBound? (.ref x) name args) Q E s := by
  simp only [callSpecialIfBound?, bindSpecialIfBound?]
  refine wpAny_holding (wpAny_bind (wpAny_bind (wpAny_bind (I.type.here ((looks_findIn X hs).here ?_)))))
  refine wpAny_bind (wpAny_askSetting (wpAny_ite ?_))
  have fin : wpAny M A (call (.builtin id) ([.ref x] ++ args) >>= fun v => pure (some v)) Q E s := wpAny_bind (wpAny_mono h (fun v s' h' => wpAny_pure h') fun _ _ h' => h')
  split
  · exact wpAny_bind ((Looks.of_pure (hb _)).here (wpAny_pure (by exact fin)))
  · exact wpAny_tryCatch (wpAny_bind ((Looks.of_pure (hb _)).here (wpAny_pure (by exact fin))))
theorem obj_ne {Q : Value → Shared → Prop} (hu : A.in1.units < cLine) (X : K.In s.heap) (I : InstAt s.heap x ox C od) (hm : mroIn K C (.type "object") = some true) (hs : findIn K (.ref C) "__eq__" = some (some (.ref f))) (hf : isFn K (.ref f) = true)
    (h : wpAny (model prog w) A.in1 (call (.ref f) [.ref x, b]) (fun v s' => ∃ c, v = .bool c ∧ Q (.bool (!c)) s') E s) : wpAny (model prog w) A (call (.builtin "object.__ne__") [.ref x, b]) Q E s := by
  refine wpAny_call (codeAny_call_builtin PySem.F.cmp_object.ne.plain PySem.F.cmpEntry_ne (check_slot PySem.F.cmpKind_ne PySem.F.cmpSplit_ne (I.type.andThen (looks_mroIn X hm)) (PySem.F.cmpArgs_ne _ _) ?_))
  unfold Builtin.«object.__ne__»
  refine wpAny_bind (m := slotArgs "__ne__" 1 _) (wpAny_pure ?_)
  refine wpAny_bind (m := cRoomFor _ _) (wpAny_cRoomFor hu ?_)
  refine wpAny_bind (m := callSpecialIfBound? (.ref x) (Str.ofString "__eq__") _) (ifBound_K X I hs hf (wpAny_mono h (fun r s' hq => ?_) fun _ _ y => y))
  obtain ⟨c, rfl, q⟩ := hq
  refine wpAny_bind (m := truthy (.bool _)) (wpAny_truthy_bool ?_)
  exact wpAny_pure q
theorem ne_own {Q : Value → Shared → Prop} (hu : A.units + 1 < cLine) (F : Fr h₀ L s.heap m) (X₀ : K.In h₀) (I : InstAt s.heap x ox C od) (hb : Looks (model prog w) s.heap (typeOf b) tb) (hn : notFirst K C tb = true)
    (hne : findIn K (.ref C) "__ne__" = some (some (.builtin "object.__ne__"))) (hm : mroIn K C (.type "object") = some true) (hs : findIn K (.ref C) "__eq__" = some (some (.ref f))) (hf : isFn K (.ref f) = true)
    (h : wpAny (model prog w) A.in1 (call (.ref f) [.ref x, b]) (fun v s' => ∃ c, v = .bool c ∧ Q (.bool (!c)) s') E s) : wpAny (model prog w) A (richCompare .NotEq (.ref x) b) Q E s := by
  have X := X₀.keeps F.keep
  have one : wpAny (model prog w) A (tryCompare (.ref x) (cmpInfo .NotEq).2.1 b) (fun r s' => ∃ v, r = some v ∧ Q v s') E s := by
    unfold tryCompare
    refine wpAny_bind (ifBound_B X I hne PySem.F.cmp_object.ne.bind (obj_ne (by show A.units + 1 < _; exact hu) X I hm hs hf (wpAny_mono h (fun v s' hv => ?_) fun _ _ e => e)))
    obtain ⟨c, rfl, q⟩ := hv
    exact ⟨c, rfl, wpAny_pure ⟨_, rfl, q⟩⟩
  unfold richCompare
  simp only [oneThing_ref]
  refine wpAny_holding (wpAny_bind (wpAny_cRoomFor (Nat.lt_of_succ_lt hu) ?_))
  refine wpAny_bind (I.type.here (wpAny_bind (hb.here ?_)))
  split
  · rename_i q
    have e : subIn K tb (.ref C) = some false := by
      rcases Bool.or_eq_true_iff.mp hn with e | e
      · rw [beq_iff_eq.mp e] at q; simp at q
      · exact beq_iff_eq.mp e
    refine wpAny_bind ((looks_subIn X e).here ?_)
    simp only [Bool.false_eq_true, if_false]
    refine wpAny_bind (wpAny_mono one (fun r s' z => ?_) fun _ _ e => e)
    obtain ⟨v, rfl, hq⟩ := z
    exact wpAny_pure hq
  · refine wpAny_bind (wpAny_pure ?_)
    simp only [Bool.false_eq_true, if_false]
    refine wpAny_bind (wpAny_mono one (fun r s' z => ?_) fun _ _ e => e)
    obtain ⟨v, rfl, hq⟩ := z
    exact wpAny_pure hq
end
end PySem.W
namespace L2
open PySem PySem.Spec PyProof.Rows
/-- what a class with its own == says of itself -/
structure EqOf (K : PySem.W.Frag) (C f : Addr) : Prop where
  eq : PySem.W.findIn K (.ref C) "__eq__" = some (some (.ref f))
  fn : PySem.W.isFn K (.ref f) = true
  ne : PySem.W.findIn K (.ref C) "__ne__" = some (some (.builtin "object.__ne__"))
  mro : PySem.W.mroIn K C (.type "object") = some true
/-- x == y, x an instance of the class at C: what its __eq__ (promise sp) answers, a bool -/
def rEqO (K : PySem.W.Frag) (C : Addr) (sp : Sp) : R2 := fun x y H Q => ∃ a dx fs t, x = .ref a ∧ H a = some (.ins C dx fs) ∧ TyX K H y t ∧ PySem.W.notFirst K C t = true ∧ sp [x, y] H (fun v H' => ∃ c, v = .bl c ∧ Q (.bl c) H') (fun _ _ _ => False)
def rNeO (K : PySem.W.Frag) (C : Addr) (sp : Sp) : R2 := fun x y H Q => ∃ a dx fs t, x = .ref a ∧ H a = some (.ins C dx fs) ∧ TyX K H y t ∧ PySem.W.notFirst K C t = true ∧ sp [x, y] H (fun v H' => ∃ c, v = .bl c ∧ Q (.bl (!c)) H') (fun _ _ _ => False)
section
variable {X : Cx} {CX : CXT} {C f : Addr} {fd : FuncData} {ps : List Str} {sp : Sp} {n : Nat}
theorem own_run {A : Around} {pins : List (Addr × Obj)} {σ : St} {H : Hp} {s : Shared} {Q : VK} {a : Addr} {y : V} {u : Value} (F : FnOk X.prog X.w X.K X.mg X.base CX n f fd ps sp) (hr : Room n A) (hfr : A.frames = X.A.frames) (hb : Binds X.K fd ps []) (hx : Passes CX X (fun _ _ _ => False))
    (I : Inv X pins σ H s) (ry : RelV y u) (h : sp [.ref a, y] H Q (fun _ _ _ => False)) : wpAny (model X.prog X.w) A (call (.ref f) [.ref a, u]) (EP X pins σ Q) X.xe s := by
  have e0 : Env0 X.prog X.w X.K X.mg X.base A X.stack s H := by
    have e := I.env0
    exact ⟨by rw [hfr]; exact e.frames, e.mod, e.bs, e.bsz, e.funs, e.frf, e.hok, e.bare⟩
  have hl := F.len _ _ _ _ h
  have r2 : Vals [V.ref a, y] [Value.ref a, u] := .cons rfl (.cons ry .nil)
  refine wpAny_call (codeAny_mono (F.run A X.stack s H ⟨[.ref a, u], []⟩ [.ref a, u] [.ref a, y] _ _ hr e0 (by
    have := hb s [.ref a, u] I.kIn (by simpa using hl)
    simpa using this) r2 h) fun r s' hq => ?_)
  cases r with
  | error e => exact hx pins σ H s e s' I hq
  | ok fl =>
    cases fl with
    | ret w => exact I.after hq
    | next => exact False.elim hq
    | brk => exact False.elim hq
    | cont => exact False.elim hq
theorem op_eqO (e : EqOf X.K C f) (F : FnOk X.prog X.w X.K X.mg X.base CX n f fd ps sp) (hr : Room n X.A) (hb : Binds X.K fd ps []) (hx : Passes CX X (fun _ _ _ => False)) : OpR X (compareOp .Eq) (rEqO X.K C sp) := by
  intro pins s σ H x y v u Q I rx ry hq
  obtain ⟨a, dx, fs, t, rfl, ha, ty, hn, h⟩ := hq
  obtain rfl : v = Value.ref a := rx
  obtain ⟨mA, J, _⟩ := ins_get I.hok ha
  obtain ⟨od, J, _⟩ := J.look
  obtain ⟨m, hF⟩ := I.fr
  obtain ⟨P, Z, p, _⟩ := kit_of I ry ty
  show wpAny (model X.prog X.w) X.A (richCompare .Eq (.ref a) u) (EP X pins σ Q) X.xe s
  have hu : X.A.units < cLine := by have := hr.un; omega
  refine PySem.W.cmp_K (op := .Eq) hu hF I.ok.mod.kin J (Z.ty _ _ I.kIn p) hn e.eq e.fn ?_
  refine wpAny_mono (own_run F hr rfl hb hx I ry h) (fun r s' z => ?_) fun _ _ z => z
  obtain ⟨z, H', I', rz, c, ez, q⟩ := z
  subst ez
  cases rz
  exact ⟨.bl c, H', I', rfl, q⟩
theorem op_neO (e : EqOf X.K C f) (F : FnOk X.prog X.w X.K X.mg X.base CX n f fd ps sp) (hr : Room (n + 1) X.A) (hb : Binds X.K fd ps []) (hx : Passes CX X (fun _ _ _ => False)) : OpR X (compareOp .NotEq) (rNeO X.K C sp) := by
  intro pins s σ H x y v u Q I rx ry hq
  obtain ⟨a, dx, fs, t, rfl, ha, ty, hn, h⟩ := hq
  obtain rfl : v = Value.ref a := rx
  obtain ⟨mA, J, _⟩ := ins_get I.hok ha
  obtain ⟨od, J, _⟩ := J.look
  obtain ⟨m, hF⟩ := I.fr
  obtain ⟨P, Z, p, _⟩ := kit_of I ry ty
  show wpAny (model X.prog X.w) X.A (richCompare .NotEq (.ref a) u) (EP X pins σ Q) X.xe s
  have hu : X.A.units + 1 < cLine := by have := hr.un; omega
  refine PySem.W.ne_own hu hF I.ok.mod.kin J (Z.ty _ _ I.kIn p) hn e.ne e.mro e.eq e.fn ?_
  refine wpAny_mono (own_run (A := X.A.in1) F hr.in1 rfl hb hx I ry h) (fun r s' z => ?_) fun _ _ z => z
  obtain ⟨z, H', I', rz, c, ez, q⟩ := z
  subst ez
  cases rz
  exact ⟨c, rfl, .bl (!c), H', I', rfl, q⟩
end
end L2
namespace L2
open PySem PySem.Spec PyProof.Rows
/-- what isinstance asks of an own class, and of tuples, numbers and texts beside it -/
structure OwnC (K : PySem.W.Frag) (C : Addr) : Prop where
  cls : PySem.W.findIn K (.ref C) "__class__" = some (some (.builtin "object.__class__"))
  get : PySem.W.specialIn K (.builtin "object.__class__") "__get__" = some (some (.builtin "getset_descriptor.__get__"))
  tak : PySem.W.takesIn K (.builtin "object.__class__") = some true
  mro : PySem.W.mroIn K C (.type "object") = some true
  isc : PySem.W.isClsIn K C = true
  typ : PySem.W.typeIn K (.ref C) = some (.type "type")
  sT : PySem.W.subIn K (.type "tuple") (.ref C) = some false
  sI : PySem.W.subIn K (.type "int") (.ref C) = some false
  sS : PySem.W.subIn K (.type "str") (.ref C) = some false
section
variable {K : PySem.W.Frag} {C : Addr} {H : Hp} {Q : VK} {x : V}
theorem OwnC.tyx (o : OwnC K C) (cl : Cls K C) {a dx : Addr} {fs : List (Str × V)} (h : H a = some (.ins C dx fs)) : TyX K H (.ref a) (.ref C) := .base (.ins h cl o.cls o.get o.tak o.mro)
theorem kit_self : PySem.W.kitOne K (.ref C) (.ref C) = some true := if_pos (beq_self_eq_true _)
theorem kit_no {n : String} (h1 : PySem.W.isClsIn K C = true) (h2 : PySem.W.typeIn K (.ref C) = some (.type "type")) (h : PySem.W.subIn K (.type n) (.ref C) = some false) : PySem.W.kitOne K (.type n) (.ref C) = some false := by
  have h1' : (PySem.W.clsIn K C).isSome = true := h1
  unfold PySem.W.kitOne
  rw [if_neg (by intro e; cases (beq_iff_eq.mp e))]
  show (if ((PySem.W.clsIn K C).isSome && PySem.W.typeIn K (.ref C) == some (.type "type")) = true then PySem.W.subIn K (.type n) (.ref C) else none) = some false
  rw [if_pos (by rw [h1', h2]; rfl)]
  exact h
theorem first_self : PySem.W.notFirst K C (.ref C) = true := by simp [PySem.W.notFirst]
theorem first_no {n : String} (h : PySem.W.subIn K (.type n) (.ref C) = some false) : PySem.W.notFirst K C (.type n) = true := by
  unfold PySem.W.notFirst
  rw [h]
  simp
theorem w_isOwn (o : OwnC K C) (cl : Cls K C) {a dx : Addr} {fs : List (Str × V)} (h : H a = some (.ins C dx fs)) (q : Q (.bl true) H) : rIsi K [.ref a, .ref C] H Q := ⟨_, _, _, _, _, rfl, .own C, o.tyx cl h, kit_self, q⟩
theorem w_isNot (o : OwnC K C) {n : String} (ht : TyX K H x (.type n)) (hs : PySem.W.subIn K (.type n) (.ref C) = some false) (q : Q (.bl false) H) : rIsi K [x, .ref C] H Q := ⟨_, _, _, _, _, rfl, .own C, ht, kit_no o.isc o.typ hs, q⟩
theorem w_rep {l : Addr} {xs : List V} {k : Int} (h : H l = some (.lst xs)) (h0 : 0 ≤ k) (h1 : k ≤ 1000) (hz : xs.length ≤ 1000) (q : ∀ p, H p = none → Q (.ref p) (upd H p (.lst (List.replicate k.toNat xs).flatten))) : rRep (.ref l) (.int k) H Q :=
  ⟨l, k, xs, rfl, rfl, h, by omega, by omega, by
    rw [sizeLine_eq]
    have : xs.length * k.toNat ≤ 1000 * 1000 := Nat.mul_le_mul hz (by omega)
    omega, q⟩
end
/-! ### rows of any values; rows of new lists -/
def RRw (b : Bool) (K : PySem.W.Frag) : Rep (List V) := fun H v xs => ∃ a, v = .ref a ∧ Sq b K H a xs
theorem RRw.mono {b : Bool} {K : PySem.W.Frag} : RMono (RRw b K) := fun _ _ _ _ s ⟨a, e, h⟩ => ⟨a, e, s.sq h⟩
theorem RRw.tup {K : PySem.W.Frag} : RTup (RRw false K) := fun _ _ _ _ hD ⟨a, e, h⟩ => ⟨a, e, sq_hide hD h⟩
/-- D a list of new lists: their addresses, none twice, none there before -/
def FRows (H0 H : Hp) (D : Addr) (rows : List (List V)) : Prop := ∃ ps : List Addr, H D = some (.lst (ps.map V.ref)) ∧ ps.length = rows.length ∧ ps.Nodup ∧ (∀ p ∈ ps, H0 p = none) ∧ H0 D = none ∧ D ∉ ps ∧ ∀ (i : Nat) p r, ps[i]? = some p → rows[i]? = some r → H p = some (.lst r)
section
variable {K : PySem.W.Frag} {H0 H H' : Hp} {D : Addr} {rows : List (List V)}
theorem FRows.mono (s : Same H H') (f : FRows H0 H D rows) : FRows H0 H' D rows := by
  obtain ⟨ps, h1, h2, h3, h4, h5, h6, h7⟩ := f
  exact ⟨ps, s _ _ h1, h2, h3, h4, h5, h6, fun i p r a b => s _ _ (h7 i p r a b)⟩
theorem FRows.seq (f : FRows H0 H D rows) : RSeq true K (RRw true K) H (.ref D) rows := by
  obtain ⟨ps, h1, h2, h3, h4, h5, h6, h7⟩ := f
  refine ⟨D, _, rfl, Sq.lst h1, by rw [List.length_map]; exact h2, fun i y x hy hx => ?_⟩
  rw [List.getElem?_map] at hy
  cases e : ps[i]? with
  | none => rw [e] at hy; cases hy
  | some p =>
    rw [e] at hy
    cases hy
    exact ⟨p, rfl, Sq.lst (h7 i p x e hx)⟩
/-- a store into one of the rows -/
theorem FRows.set {i : Nat} {r r' : List V} (f : FRows H0 H D rows) (hi : rows[i]? = some r) : ∃ p, (∃ ps : List Addr, H D = some (.lst (ps.map V.ref)) ∧ ps[i]? = some p) ∧ H p = some (.lst r) ∧ H0 p = none ∧ p ≠ D ∧ FRows H0 (upd H p (.lst r')) D (rows.set i r') := by
  obtain ⟨ps, h1, h2, h3, h4, h5, h6, h7⟩ := f
  have hlt := (List.getElem?_eq_some_iff.mp hi).1
  have hp : ps[i]? = some (ps[i]'(by omega)) := List.getElem?_eq_getElem (by omega)
  generalize ps[i]'(by omega) = p at hp
  have hm := List.mem_of_getElem? hp
  have hpD : p ≠ D := fun e => h6 (by rw [← e]; exact hm)
  refine ⟨p, ⟨ps, h1, hp⟩, h7 i p r hp hi, h4 p hm, hpD, ps, (upd_ne (Ne.symm hpD)).trans h1, by rw [List.length_set]; exact h2, h3, h4, h5, h6, fun j q x hq hx => ?_⟩
  rw [List.getElem?_set] at hx
  by_cases e : i = j
  · subst e
    rw [if_pos rfl, if_pos hlt] at hx
    rw [hp] at hq
    cases hq
    cases hx
    exact upd_same
  · rw [if_neg e] at hx
    have hqp : q ≠ p := fun z => e (by
      subst z
      have a := (List.getElem?_eq_some_iff.mp hp)
      have b := (List.getElem?_eq_some_iff.mp hq)
      exact (List.getElem_inj h3).mp (a.2.trans b.2.symm))
    rw [upd_ne hqp]
    exact h7 j q x hq hx
theorem map_ref_inj : ∀ {ps qs : List Addr}, ps.map V.ref = qs.map V.ref → ps = qs
  | [], [], _ => rfl
  | [], q :: qs, h => by cases h
  | p :: ps, [], h => by cases h
  | p :: ps, q :: qs, h => by
    rw [List.map_cons, List.map_cons] at h
    injection h with h1 h2
    injection h1 with h1
    rw [h1, map_ref_inj h2]
/-- a new list put behind the rows -/
theorem FRows.push {p : Addr} {r : List V} {ps : List Addr} (h1 : H D = some (.lst (ps.map V.ref))) (f : FRows H0 H D rows) (hp : H p = some (.lst r)) (h0 : H0 p = none) (hn : p ∉ ps) (hD : p ≠ D) : FRows H0 (upd H D (.lst (ps.map V.ref ++ [.ref p]))) D (rows ++ [r]) := by
  obtain ⟨ps', g1, h2, h3, h4, h5, h6, h7⟩ := f
  have e : ps' = ps := by
    rw [g1] at h1
    have h1 : ps'.map V.ref = ps.map V.ref := by
      have := Option.some.inj h1
      injection this
    exact map_ref_inj h1
  subst e
  refine ⟨ps' ++ [p], by rw [upd_same, List.map_append]; rfl, by rw [List.length_append, List.length_append, h2]; rfl, List.nodup_append.mpr ⟨h3, List.nodup_cons.mpr ⟨List.not_mem_nil, List.nodup_nil⟩, fun a ha b hb e => hn (by rw [List.mem_singleton.mp hb] at e; rw [← e]; exact ha)⟩,
    fun q hq => ?_, h5, fun hm => ?_, fun i q x hq hx => ?_⟩
  · rcases List.mem_append.mp hq with h | h
    · exact h4 q h
    · rw [List.mem_singleton.mp h]; exact h0
  · rcases List.mem_append.mp hm with h | h
    · exact h6 h
    · exact hD (List.mem_singleton.mp h).symm
  · have hq1 := (List.getElem?_eq_some_iff.mp hq).1
    rw [List.length_append] at hq1
    by_cases hlt : i < ps'.length
    · rw [List.getElem?_append_left hlt] at hq
      rw [List.getElem?_append_left (by omega)] at hx
      have hqD : q ≠ D := fun e => h6 (by rw [← e]; exact List.mem_of_getElem? hq)
      rw [upd_ne hqD]
      exact h7 i q x hq hx
    · have ei : i = ps'.length := by
        have : i < ps'.length + 1 := hq1
        omega
      subst ei
      rw [List.getElem?_append_right (Nat.le_refl _), Nat.sub_self] at hq
      rw [h2, List.getElem?_append_right (Nat.le_refl _), Nat.sub_self] at hx
      cases hq
      cases hx
      rw [upd_ne hD]
      exact hp
end
theorem line_of1 {n : Nat} (h : n ≤ 1000000) : n < sizeLine := by rw [sizeLine_eq]; omega
theorem w_tupAny {K : PySem.W.Frag} {H : Hp} {Q : VK} {b : Bool} {a : Addr} {ys : List V} (h : Sq b K H a ys) (q : ∀ p H', Same H H' → Sq false K H' p ys → Q (.ref p) H') : rTupS K [.ref a] H Q := by
  cases b with
  | true => exact w_tupL h fun p hp => q _ _ (Same.new hp) (Sq.tup upd_same)
  | false => exact w_tupT h (q _ _ (Same.refl _) h)
theorem w_catA {K : PySem.W.Frag} {H : Hp} {Q : VK} {a b : Addr} {xs ys : List V} (h1 : Sq false K H a xs) (h2 : Sq false K H b ys) (hz : xs.length + ys.length ≤ 1000000) (q : ∀ p H', Same H H' → Sq false K H' p (xs ++ ys) → Q (.ref p) H') : rCatA K (.ref a) (.ref b) H Q :=
  ⟨a, b, xs, ys, rfl, rfl, h1, h2, by rw [sizeLine_eq]; omega, fun e => q _ _ (Same.refl _) (by rw [e]; exact h2), fun _ e => q _ _ (Same.refl _) (by rw [e, List.append_nil]; exact h1), fun _ _ p hp => q _ _ (Same.new hp) (Sq.tup upd_same)⟩
theorem Fr.sqI {b : Bool} {K : PySem.W.Frag} {H H' : Hp} {t a : Addr} {xs : List V} (f : Fr t H H') (ht : ∃ C dx fs, H t = some (.ins C dx fs)) (h : Sq b K H a xs) : Sq b K H' a xs := by
  obtain ⟨C, dx, fs, ht⟩ := ht
  cases b with
  | true =>
    have h : SqL K H a xs := h
    rcases h with (h | ⟨o, h⟩) | h
    · exact .inl (.inl (f _ _ (fun e => by rw [e, ht] at h; cases h) h))
    · exact .inl (.inr ⟨o, f _ _ (fun e => by rw [e, ht] at h; cases h) h⟩)
    · exact .inr h
  | false =>
    have h : SqT K H a xs := h
    rcases h with (h | ⟨o, h⟩) | h
    · exact .inl (.inl (f _ _ (fun e => by rw [e, ht] at h; cases h) h))
    · exact .inl (.inr ⟨o, f _ _ (fun e => by rw [e, ht] at h; cases h) h⟩)
    · exact .inr h
/-- lists or tuples of lists or tuples of any values -/
def RRows (b1 b2 : Bool) (K : PySem.W.Frag) : Rep (List (List V)) := RSeq b1 K (RRw b2 K)
theorem RRows.mono {b1 b2 : Bool} {K : PySem.W.Frag} : RMono (RRows b1 b2 K) := RSeq.mono RRw.mono
theorem RRows.fr {b1 b2 : Bool} {K : PySem.W.Frag} {H H' : Hp} {t : Addr} {v : V} {rows : List (List V)} (f : Fr t H H') (ht : ∃ C dx fs, H t = some (.ins C dx fs)) (h : RRows b1 b2 K H v rows) : RRows b1 b2 K H' v rows := by
  obtain ⟨a, vs, e, h1, h2, h3⟩ := h
  exact ⟨a, vs, e, f.sqI ht h1, h2, fun i y x hy hx => by
    obtain ⟨p, e, hp⟩ := h3 i y x hy hx
    exact ⟨p, e, f.sqI ht hp⟩⟩
theorem RRows.get {b1 b2 : Bool} {K : PySem.W.Frag} {H : Hp} {v : V} {rows : List (List V)} {i : Nat} {r : List V} (h : RRows b1 b2 K H v rows) (hi : rows[i]? = some r) : ∃ a vs p, v = .ref a ∧ Sq b1 K H a vs ∧ vs.length = rows.length ∧ vs[i]? = some (.ref p) ∧ Sq b2 K H p r := by
  obtain ⟨a, vs, e, h1, h2, h3⟩ := h
  obtain ⟨y, hy, p, ep, hp⟩ := RSeq.get (R := RRw b2 K) h2 h3 hi
  subst ep
  exact ⟨a, vs, p, e, h1, h2, hy, hp⟩
theorem none_back {H H' : Hp} {p : Addr} (s : Same H H') (h : H' p = none) : H p = none := by
  cases e : H p with
  | none => rfl
  | some u => rw [s _ _ e] at h; cases h
section
variable {K : PySem.W.Frag} {σ : St} {H : Hp} {te : TE} {vs : List Nat} {Q : VK}
theorem FRows.nil {D : Addr} (hD : H D = none) : FRows H (upd H D (.lst [])) D [] := ⟨[], upd_same, rfl, List.nodup_nil, List.forall_mem_nil _, hD, List.not_mem_nil, fun i p r h => by simp at h⟩
theorem FRows.next {H0 H1 H2 : Hp} {D p : Addr} {rows : List (List V)} {r : List V} {acc : List V} (f : FRows H0 H1 D rows) (s0 : Same H0 H1) (e : H1 D = some (.lst acc)) (hp : H1 p = none) (s : Same H1 H2) (ep : H2 p = some (.lst r)) :
    H2 D = some (.lst acc) ∧ FRows H0 (upd H2 D (.lst (acc ++ [.ref p]))) D (rows ++ [r]) := by
  obtain ⟨ps, h1, h2, h3, h4, h5, h6, h7⟩ := id f
  have ea : acc = ps.map V.ref := by
    rw [h1] at e
    have e := Option.some.inj e
    injection e with e
    exact e.symm
  subst ea
  refine ⟨s _ _ e, (f.mono s).push (s _ _ h1) ep (none_back s0 hp) (fun hm => ?_) (fun e2 => by rw [e2, e] at hp; cases hp)⟩
  obtain ⟨q, hq1, hq2⟩ := List.mem_iff_getElem.mp hm
  have a1 : ps[q]? = some p := by rw [List.getElem?_eq_getElem hq1, hq2]
  have a3 := h7 q p _ a1 (List.getElem?_eq_getElem (by omega))
  rw [a3] at hp; cases hp
/-- a comprehension that gives new lists -/
theorem c_fresh {b : Bool} {a : Addr} {j : Nat} (rows : List (List V)) (xs : List V) (hx : Sq b K H a xs) (hl : rows.length = xs.length) (hz : xs.length < sizeLine) (hw : ∀ x : V, wipe ((wipe σ vs).set j (some x)) vs = wipe σ vs)
    (hs : ∀ (i : Nat) x r H1 (N : VK), i < xs.length → xs[i]? = some x → rows[i]? = some r → Same H H1 → (∀ p H2, H1 p = none → Same H1 H2 → H2 p = some (.lst r) → N (.ref p) H2) → te ((wipe σ vs).set j (some x)) H1 N)
    (k : ∀ D H', Same H H' → FRows H H' D rows → Q (.ref D) H') :
    ∃ a', V.ref a = .ref a' ∧ ((∃ xs, SqL K H a' xs) ∧ CompOk (Itl K a') (gName j) tYes te vs σ H Q ∨ (∃ xs, SqT K H a' xs) ∧ CompOk (Itt K a') (gName j) tYes te vs σ H Q) := by
  refine l_compGS (b := b) xs hz (fun D i acc H' => Same H H' ∧ FRows H H' D (rows.take i)) hx hw (fun D hD => ⟨Same.new hD, FRows.nil hD⟩) (fun D i acc H' st => st.1.sq hx) (fun i x H1 D acc NT NF hi hxi hD st e1 hal hT hF => ?_) (fun D H' ys hD st e hly => ?_)
  · obtain ⟨s1, f1⟩ := st
    have hri : rows[i]? = some (rows[i]'(by omega)) := List.getElem?_eq_getElem (by omega)
    show te _ H1 NT
    refine hs i x _ H1 NT hi hxi hri s1 fun p H2 hp s2 ep => ?_
    obtain ⟨e2, f2⟩ := f1.next s1 e1 hp s2 ep
    refine hT _ H2 e2 ⟨Same.mut (s1.trans s2) hD, ?_⟩
    rw [List.take_add_one, hri]
    exact f2
  · rw [← hl, List.take_length] at st
    exact k D H' st.1 st.2
end
theorem w_setV {H : Hp} {p : Addr} {xs : List V} {k : Int} {v : V} {N : Hp → Prop} (h : H p = some (.lst xs)) (h0 : 0 ≤ k) (h1 : k < xs.length) (q : N (upd H p (.lst (xs.set k.toNat v)))) : rSetL (.ref p) (.int k) v H N := by
  refine ⟨p, xs, k, k.toNat, rfl, rfl, h, ?_, q⟩
  unfold ixN
  rw [if_pos h0, if_pos h1]
theorem RRows.updL {K : PySem.W.Frag} {H : Hp} {q : Addr} {xs : List V} {o : HO} {v : V} {rows : List (List V)} (hq : H q = some (.lst xs)) (h : RRows false false K H v rows) : RRows false false K (upd H q o) v rows :=
  RTup.upd (RSeq.tup RRw.tup) RRows.mono (NTup.lst hq) h
/-- all keyword-only parameters written -/
theorem kbind_of {K : PySem.W.Frag} {x qual : Str} {st : Stmt} {f : Addr} {fd : FuncData} {ps ks : List Str} {n : Nat} (F : Fun K x qual st f fd)
    (h : ∀ (kV doc pm : Value) (an : Option Addr) (cdv ct : Value) (us ws : List Value), us.length = n → ws.length = ks.length → bindArgs (PySem.W.fnOf x qual (defArgs st) (defBody st) (defScope st) .none kV doc pm an cdv ct) ⟨us, ks.zip ws⟩ = pure (ps.zip (us ++ ws))) :
    KBn K fd ps n ks (fun us ws => us ++ ws) (fun vs zs => vs ++ zs) := by
  obtain ⟨oc, od, kV, doc, pm, an, cdv, ct, osl, rfl, lk, hcd⟩ := F.ex
  exact ⟨fun s us ws X l1 l2 => .of_eq (h kV doc pm an cdv ct us ws l1 l2), fun r1 r2 => r1.append r2⟩
/-- one keyword-only parameter that lacks: its default is read off -/
theorem kbind_dflt {K : PySem.W.Frag} {x qual m : Str} {st : Stmt} {f D : Addr} {oc doc pm cdv ct u : Value} {od an : Option Addr} {osl : Array (Option Value)} {ps : List Str} (n : Nat) (hn : n + 1 = ps.length)
    (l : K.lookup f = some ⟨oc, od, .func (PySem.W.fnOf x qual (defArgs st) (defBody st) (defScope st) .none (.ref D) doc pm an cdv ct), osl⟩) (hd : PySem.W.nsIn K D m = some (some u))
    (h : ∀ (us : List Value), us.length = n → KwChain D [(m, u)] (bindArgs (PySem.W.fnOf x qual (defArgs st) (defBody st) (defScope st) .none (.ref D) doc pm an cdv ct) ⟨us, []⟩) (ps.zip (us ++ [u]))) :
    Binds K (PySem.W.fnOf x qual (defArgs st) (defBody st) (defScope st) .none (.ref D) doc pm an cdv ct) ps [u] := fun s us X hlen => by
  have l2 : us.length = n := by
    rw [List.length_append] at hlen
    have : us.length + 1 = ps.length := hlen
    omega
  exact BindsTo.of_looks fun M => KwChain.looks X (fun q hq => by
    rw [List.mem_singleton.mp hq]
    exact hd) (h us l2)
section
variable {K : PySem.W.Frag} {σ : St} {H : Hp} {te : TE} {vs : List Nat} {Q : VK}
/-- a comprehension over enumerate that gives numbers -/
theorem c_intsE {b : Bool} {a : Addr} {i1 i2 : Nat} (xs : List V) (hx : Sq b K H a xs) (ms : List Int) (hl : ms.length = xs.length) (hz : xs.length < sizeLine) (hw : ∀ x y : V, wipe (((wipe σ vs).set i1 (some x)).set i2 (some y)) vs = wipe σ vs)
    (hs : ∀ (i : Nat) x H1 (N : VK), i < xs.length → xs[i]? = some x → Same H H1 → (∀ H4, Same H1 H4 → N (.int (nth ms (i : Nat))) H4) → te (((wipe σ vs).set i1 (some (.int (i : Int)))).set i2 (some x)) H1 N)
    (k : ∀ D H', H D = none → Same H H' → H' D = some (.lst (ms.map V.int)) → Q (.ref D) H') :
    ∃ a', [V.ref a] = [.ref a'] ∧ ((∃ xs, SqL K H a' xs) ∧ CompOk (Ite K a') (gTup K 2 (gCons (gName i1) (gCons (gName i2) gNil))) tYes te vs σ H Q ∨ (∃ xs, SqT K H a' xs) ∧ CompOk (IteT K a') (gTup K 2 (gCons (gName i1) (gCons (gName i2) gNil))) tYes te vs σ H Q) := by
  have body : ∀ (i : Nat) (v : V) H1 (T D : Addr) acc (NT : VK), i < xs.length → xs[i]? = some v → H D = none → (Same H H1 ∧ acc.length = i ∧ ∀ (j : Nat) y, acc[j]? = some y → y = .int (nth ms (j : Nat))) → H1 D = some (.lst acc) → H1 T = none →
      (∀ y H5, H5 D = some (.lst acc) → (Same H (upd H5 D (.lst (acc ++ [y]))) ∧ (acc ++ [y]).length = i + 1 ∧ ∀ (j : Nat) z, (acc ++ [y])[j]? = some z → z = .int (nth ms (j : Nat))) → NT y H5) →
      te (((wipe σ vs).set i1 (some (.int (i : Int)))).set i2 (some v)) (upd H1 T (.tup [.int (i : Int), v])) NT := fun i v H1 T D acc NT hi hv hD st e1 hT hN => by
    obtain ⟨s1, hal, hac⟩ := st
    have sT := s1.trans (Same.new (o := .tup [.int (i : Int), v]) hT)
    refine hs i v _ NT hi hv sT fun H4 s4 => hN _ H4 (s4 _ _ (Same.new hT _ _ e1)) ⟨Same.mut (sT.trans s4) hD, by rw [List.length_append, hal]; rfl, fun j z hj => ?_⟩
    by_cases hlt : j < acc.length
    · rw [List.getElem?_append_left hlt] at hj
      exact hac j z hj
    · have h1 := (List.getElem?_eq_some_iff.mp hj).1
      rw [List.length_append] at h1
      have ej : j = acc.length := by
        have : j < acc.length + 1 := h1
        omega
      subst ej
      rw [List.getElem?_append_right (Nat.le_refl _), Nat.sub_self] at hj
      cases hj
      rw [hal]
  refine ⟨a, rfl, ?_⟩
  cases b with
  | true =>
    refine .inl ⟨⟨xs, hx⟩, l_compG (walk_enum (xs := xs)) hz (fun D i acc H' => Same H H' ∧ acc.length = i ∧ ∀ (j : Nat) y, acc[j]? = some y → y = .int (nth ms (j : Nat))) (fun D hD => ⟨Same.new hD, rfl, fun j y e => by simp at e⟩) (fun D i acc H' st => st.1.sq hx) (fun i x H1 H2 D acc NT NF hi hD st e1 hal hy hT hF => ?_) (fun D H' ys hD st e hly => ?_)⟩
    · obtain ⟨T, u, v, rfl, hTn, e, hu, hv⟩ := hy
      cases hu
      subst e
      refine w_pair (Sq.tup upd_same) ⟨hw _ _, ?_⟩
      show te _ _ NT
      exact body i v H1 T D acc NT hi hv hD st e1 hTn hT
    · exact k D H' hD st.1 (by rw [e, vec_of (by omega) st.2.2])
  | false =>
    refine .inr ⟨⟨xs, hx⟩, l_compG (walk_enumT (xs := xs)) hz (fun D i acc H' => Same H H' ∧ acc.length = i ∧ ∀ (j : Nat) y, acc[j]? = some y → y = .int (nth ms (j : Nat))) (fun D hD => ⟨Same.new hD, rfl, fun j y e => by simp at e⟩) (fun D i acc H' st => st.1.sq hx) (fun i x H1 H2 D acc NT NF hi hD st e1 hal hy hT hF => ?_) (fun D H' ys hD st e hly => ?_)⟩
    · obtain ⟨T, u, v, rfl, hTn, e, hu, hv⟩ := hy
      cases hu
      subst e
      refine w_pair (Sq.tup upd_same) ⟨hw _ _, ?_⟩
      show te _ _ NT
      exact body i v H1 T D acc NT hi hv hD st e1 hTn hT
    · exact k D H' hD st.1 (by rw [e, vec_of (by omega) st.2.2])
end
end L2

namespace PySem.W
open PySem PySem.Spec PySem.Calls PyProof.Rows
/-! ### isinstance of a caught error that has a dict of its own -/
section
variable {prog : Program} {w : World} {A : Around} {E : Value → Shared → Prop} {s : Shared} {K : Frag} {x D : Addr} {ox od : Obj}
theorem kin_classX {Q : Option Value → Shared → Prop} (hga : findIn K (.ref D) "__getattribute__" = some (some (.builtin "BaseException.__getattribute__"))) (hgt : findIn K (.ref D) "__getattr__" = some none) (hsub : subIn K (.ref D) (.type "BaseException") = some true)
    (hdct : hasDictIn K D = true) (ha : findIn K (.ref D) "__class__" = some (some (.builtin "object.__class__")))
    (hn : specialIn K (.builtin "object.__class__") "__get__" = some (some (.builtin "getset_descriptor.__get__"))) (htk : takesIn K (.builtin "object.__class__") = some true) (hm : mroIn K D (.type "object") = some true)
    (X : K.In s.heap) (I : InstAt s.heap x ox D (some od)) (h : Q (some (.ref D)) { s with toks := s.toks + 1 }) : wpAny (model prog w) A (getAttr? (.ref x) "__class__") Q E s := by
  have hf : findObj K D (some od) "__class__" = some (.bind (.builtin "getset_descriptor.__get__") (.builtin "object.__class__")) := findObj_data (by obtain ⟨cd, hc, _⟩ := any_some hdct; rw [hc]; rfl) ha hn htk
  obtain ⟨hp, g, d, t, os⟩ := s
  have L0 := I.type (M := model prog w)
  have L1 := looks_findIn (M := model prog w) X hga
  have L2 := looks_findIn (M := model prog w) X hgt
  have L3 := looks_find (M := model prog w) X I hf
  have sub : Looks (model prog w) hp (isInstance (.ref x) (.type "BaseException")) true := L0.andThen (looks_subIn X hsub)
  have hx0 : (false && onTheHeap (Value.builtin "BaseException.__getattribute__")) = false := rfl
  have hx2 : (Value.builtin "BaseException.__getattribute__" == Value.builtin "object.__getattribute__") = false := by decide +kernel
  have hx1 : (onTheHeap (Value.ref D) && Value.builtin "BaseException.__getattribute__" == Value.builtin "object.__getattribute__") = false := by rw [hx2]; rfl
  unfold getAttr? getAttrBy? getAttrBy
  refine wpAny_bind (wpAny_mkText (wpAny_bind (wpAny_attempt (wpAny_holding (wpAny_bind (L0.at (wpAny_bind (L1.at ?_))))))))
  show wpAny _ _ (if (onTheHeap (Value.ref D) && Value.builtin "BaseException.__getattribute__" == Value.builtin "object.__getattribute__") = true then _ else _) _ _ _
  rw [hx1, if_neg Bool.false_ne_true]
  unfold getAttrByItsOwn hookBefore
  refine wpAny_bind ?_
  rw [if_pos (show onTheHeap (Value.ref D) = true from rfl)]
  refine L2.at ?_
  refine wpAny_bind (wpAny_attempt (wpAny_holding ?_))
  unfold callGetattribute
  rw [hx0, if_neg Bool.false_ne_true]
  unfold boundAndCalled
  rw [PySem.F.excAttr_ValueError.ga.bind (.ref x)]
  refine wpAny_bind (wpAny_pure ?_)
  show wpAny _ _ (call (.builtin "BaseException.__getattribute__") [.ref x, .str "__class__" t]) _ _ _
  refine wpAny_call (codeAny_call_builtin PySem.F.excAttr_ValueError.ga.plain PySem.F.entry_bexc_ga ?_)
  refine @check_slot (model prog w) _ _ ⟨hp, g, d, t + 1, os⟩ "BaseException.__getattribute__" "BaseException" "__getattribute__" (.ref x) [.str "__class__" t] [] _ (by decide +kernel) (by decide +kernel) sub (PySem.F.args_bexc_ga (.ref x) (.str "__class__" t)) ?_
  unfold Builtin.«object.__getattribute__»
  refine wpAny_bind (wpAny_of_eq (a := ((Value.ref x : Value), [Value.str "__class__" t])) (by first | rfl | (simp only [slotArgs]; rfl)) ?_)
  refine wpAny_bind (wpAny_pure (wpAny_bind (L0.at (wpAny_bind (L3.at ?_)))))
  show wpAny _ _ (holding [Value.builtin "object.__class__"] (call (.builtin "getset_descriptor.__get__") [.builtin "object.__class__", .ref x, .ref D]) >>= ret) _ _ _
  refine wpAny_bind (wpAny_holding (wpAny_call (class_get (s := ⟨hp, g, d, t + 1, os⟩) (ox := ox) (od := some od) X I hm ?_)))
  refine wpAny_pure ?_
  show wpAny _ _ (handedOut (.ref D)) _ _ _
  rw [handedOut_of (v := .ref D) rfl]
  first
    | exact wpAny_pure (wpAny_pure h)
    | exact wpAny_pure h
    | exact wpAny_pure (wpAny_bind (wpAny_pure (wpAny_pure h)))
theorem kitx_excX (hga : findIn K (.ref D) "__getattribute__" = some (some (.builtin "BaseException.__getattribute__"))) (hgt : findIn K (.ref D) "__getattr__" = some none) (hsub : subIn K (.ref D) (.type "BaseException") = some true) (hdct : hasDictIn K D = true) (ha : findIn K (.ref D) "__class__" = some (some (.builtin "object.__class__")))
    (hn : specialIn K (.builtin "object.__class__") "__get__" = some (some (.builtin "getset_descriptor.__get__"))) (htk : takesIn K (.builtin "object.__class__") = some true) (hm : mroIn K D (.type "object") = some true) :
    KitX K (.ref x) (.ref D) (fun h => InstAt h x ox D (some od)) where
  ty := fun _ _ _ I => I.type
  it := fun _ _ X _ => by
    obtain ⟨cdD, hcD, _⟩ := any_some hdct
    unfold clsIn at hcD
    split at hcD
    · rename_i c' d' cd' sl' ho
      intro A' Q' E' s' k q
      unfold isType loadHead
      exact wpAny_bind (wpAny_loadPart (k _ _ (X _ _ ho)) (wpAny_pure q))
    · cases hcD
  ne := (handS_kitx_exc (x := x) (ox := ox) hga hgt hsub hdct ha hn htk hm).ne
  ca := fun X I k => kin_classX hga hgt hsub hdct ha hn htk hm X I k
end
end PySem.W
namespace L2
open PySem PySem.Spec PyProof.Rows
/-- isinstance(e, c) or isinstance(e, (c1, ..)), e the error that the suite holds, its class cls, its dict d -/
def rIsX (K : PySem.W.Frag) (a : Addr) (cls : Value) (d : Option Addr) : List V → Hp → VK → Prop := fun xs H Q => ∃ (c : V) (C dd : Addr) (fs : List (Str × V)) (b : Bool), xs = [.ref a, c] ∧ cls = .ref C ∧ d = some dd ∧ H dd = some (.xd fs) ∧ ExcC K C ∧
  ((∃ cv, ClsV c cv ∧ PySem.W.kitOne K (.ref C) cv = some b) ∨ ∃ (tp : Addr) (cs : List V) (us : List Value), c = .ref tp ∧ H tp = some (.tup cs) ∧ Paired ClsV cs us ∧ PySem.W.kitAny K (.ref C) us = some b) ∧ Q (.bl b) H
theorem call_isX {X : Cx} {a : Addr} {oe : Obj} {cls : Value} {d : Option Addr} (hp : (a, oe) ∈ X.pn) (hz : Zc cls d oe) (hf : ∃ vs, oe.data = .fields vs) : CallR X (.builtin "isinstance") (rIsX X.K a cls d) := by
  intro pins s σ H xs us Q I r h
  obtain ⟨c, D, dd, fs, b, rfl, rfl, rfl, hdd, C, hc, q⟩ := h
  obtain ⟨u1, u2, rfl, r1, r2⟩ := vals2 r
  cases (show u1 = Value.ref a from r1)
  obtain ⟨hget, _⟩ := I.pin (a, oe) (List.mem_append_left _ hp)
  obtain ⟨vs, hv⟩ := hf
  have hx : ObjOk X.prog X.w H s.heap dd (.xd fs) := I.hok dd _ hdd
  obtain ⟨mA, hns, _⟩ := hx
  obtain ⟨od, ho, _⟩ := lookIn_ns hns
  have J : PySem.W.InstAt s.heap a oe D (some od) := ⟨hget, hz.1, by unfold PySem.W.notCls; rw [hv] <;> rfl, by rw [hz.2]; exact ho⟩
  have Z := PySem.W.kitx_excX (x := a) (ox := oe) (od := od) C.hg C.hk C.hs C.hd C.ha C.hn C.ht C.hm
  rcases hc with ⟨cv, kc, e⟩ | ⟨tp, cs, ws, rfl, hT, k, e⟩
  · have e2 := kc.eq r2
    subst e2
    exact PySem.W.kia_one Z I.kIn J e (fun z => nomatch z) fun tk => ⟨.bl b, H, I.kept (t' := tk) fun _ _ z => z, rfl, q⟩
  · cases (show u2 = Value.ref tp from r2)
    obtain ⟨_, its, rv, o, h1, h2, n, h3⟩ := (show ObjOk X.prog X.w H s.heap tp (.tup cs) from I.hok tp _ hT)
    have e3 := ClsV.all k rv
    subst e3
    obtain ⟨oc, od', dt, sl⟩ := o
    simp only at h2 h3
    subst h2 h3
    exact PySem.W.kia_tup Z I.kIn J h1 e (fun z => nomatch z) fun tk => ⟨.bl b, H, I.kept (t' := tk) fun _ _ z => z, rfl, q⟩
/-! ### calls within a try: what may be let out, at the slots as they stand -/
section
variable {X : Cx} {CX : CXT} {k : Nat} {f C : Addr} {fd : FuncData} {ps : List Str} {sp : Sp} {dvs : List V} {ds : List Value} {E : St → XK} {x m : Str} {p pos apos : Pos} {e o : Expr} {es : List Expr} {ta : TE} {t : TA}
theorem run_fnT {pins : List (Addr × Obj)} {σ : St} {H : Hp} {s : Shared} {Q : VK} {us : List Value} {vs : List V} (F : FnOk X.prog X.w X.K X.mg X.base CX k f fd ps sp) (hr : Room k X.A) (hb : Binds X.K fd ps ds) (hd : Vals dvs ds) (hx : PassesAt CX X σ (E σ))
    (I : Inv X pins σ H s) (r : Vals vs us) (h : sp (vs ++ dvs) H Q (E σ)) : wpAny (model X.prog X.w) X.A (call (.ref f) us) (EP X pins σ Q) X.xe s := by
  have r2 : Vals (vs ++ dvs) (us ++ ds) := r.append hd
  have hl : (us ++ ds).length = ps.length := by rw [← r2.length]; exact F.len _ _ _ _ h
  refine wpAny_call (codeAny_mono (F.run X.A X.stack s H ⟨us, []⟩ (us ++ ds) (vs ++ dvs) Q (E σ) hr I.env0 (hb s us I.kIn hl) r2 h) fun r s' hq => ?_)
  cases r with
  | error e => exact hx pins H s e s' I hq
  | ok fl =>
    cases fl with
    | ret u => exact I.after hq
    | next => exact False.elim hq
    | brk => exact False.elim hq
    | cont => exact False.elim hq
def tMethT (C : Addr) (m : Str) (sp : Sp) (dvs : List V) (E : St → XK) (ta : TE) (t : TA) : TE := fun σ H Q => ta σ H fun x H1 => ∃ a dx fs, x = .ref a ∧ H1 a = some (.ins C dx fs) ∧ fs.lookup m = none ∧ t σ H1 fun vs H2 => sp (x :: (vs ++ dvs)) H2 Q (E σ)
theorem pe_methT {pl : Sem Bool} (he : PE X o ta) (c : Cls X.K C) (hm : Meth X.K C m f) (F : FnOk X.prog X.w X.K X.mg X.base CX k f fd ps sp) (hr : Room k X.A) (hb : Binds X.K fd ps ds) (hd : Vals dvs ds) (hx : ∀ σ, PassesAt CX X σ (E σ)) (ha : PA X (e :: es) t)
    (hst : starEach (e :: es) X.env = (false, eval e X.env) :: starEach es X.env := by rfl) (hpl : (backTo pos (starEach es X.env)).any (·.1) = false := by rfl)
    (ht : eval (.Call (.Attribute o m apos) (e :: es) [] pos) X.env = (do
      let ov ← eval o X.env
      standAt apos.atName
      let (f, first) ← holding [ov] (getMethod ov m pl)
      callWith pos f first (backTo pos (starEach (e :: es) X.env)) (backToKw pos (keywordEach [] X.env))) := by rfl) :
    PE X (.Call (.Attribute o m apos) (e :: es) [] pos) (tMethT C m sp dvs E ta t) := by
  refine ⟨fun pins s σ H Q I h => ?_⟩
  refine PySem.W.methodCall_KW (pl := pl) (thn (he.run pins s σ H _ I h) fun u s1 ⟨x, H1, I1, rx, a, dx, fs, ex, ea, l, q⟩ => ?_) ht
  subst ex
  obtain rfl : u = Value.ref a := rx
  refine getmeth_ok I1 ea c hm l ?_
  refine PySem.W.callWith_K (first := [.ref a]) (h₀ := X.base) I.ok.mod.kin hm.kp (thn (ha.run pos pins s1 σ H1 _ I1 q) fun us s2 ⟨vs, H2, I2, r, q2⟩ => ⟨I2.kIn, ?_⟩) hst hpl
  exact run_fnT (us := .ref a :: us) (vs := .ref a :: vs) F hr hb hd (hx σ) I2 (.cons rfl r) q2
def tMakeT (C : Addr) (sp : Sp) (dvs : List V) (E : St → XK) (t : TA) : TE := fun σ H Q => t σ H fun vs H1 => ∀ x dx, H1 x = none → H1 dx = none → dx ≠ x → sp (.ref x :: (vs ++ dvs)) (upd (upd H1 dx (.own x)) x (.ins C dx [])) (fun v H2 => v = .non ∧ Q (.ref x) H2) (E σ)
theorem pe_makeT (M : Mk X.K C f) (F : FnOk X.prog X.w X.K X.mg X.base CX k f fd ps sp) (hr : Room (k + 1) X.A) (hg : Gl X x) (hm : X.mg x = some (.ref C)) (hb : Binds X.K fd ps ds) (hd : Vals dvs ds) (hx : ∀ σ, PassesAt CX X σ (E σ))
    (ha : PA X (e :: es) t) (hdb : (x == ("__debug__" : Str)) = false := by decide) (he : starEach (e :: es) X.env = (false, eval e X.env) :: starEach es X.env := by rfl) (hpl : (backTo pos (starEach es X.env)).any (·.1) = false := by rfl) :
    PE X (.Call (.Name x p) (e :: es) [] pos) (tMakeT C sp dvs E t) := by
  refine ⟨fun pins s σ H Q I h => ?_⟩
  refine wpAny_Call_Name_kw (ld_glob I hg hm ?_ hdb)
  refine PySem.W.callWith_K (h₀ := X.base) I.ok.mod.kin M.kp (thn (ha.run pos pins s σ H _ I h) fun us s1 ⟨vs, H1, I1, r, h⟩ => ⟨I1.kIn, ?_⟩) he hpl
  have hq := h (s1.heap.objs.size + 1) s1.heap.objs.size (I1.hok.fresh (Nat.le_succ _)) (I1.hok.fresh (Nat.le_refl _)) (Nat.ne_of_lt (Nat.lt_succ_self _))
  have I2 := Inv.made (C := C) I1
  have r2 : Vals (V.ref (s1.heap.objs.size + 1) :: (vs ++ dvs)) (Value.ref (s1.heap.objs.size + 1) :: (us ++ ds)) := .cons rfl (r.append hd)
  have hl : (Value.ref (s1.heap.objs.size + 1) :: us ++ ds).length = ps.length := by
    have e := r2.length
    rw [F.len _ _ _ _ hq] at e
    exact e.symm
  refine wpAny_call (make_map (f := f) I1.kIn M.makes M.init (beq_iff_eq.mp M.fn) (codeAny_mono (F.run _ X.stack _ _ ⟨Value.ref (s1.heap.objs.size + 1) :: us, []⟩ (Value.ref (s1.heap.objs.size + 1) :: (us ++ ds)) _ _ (E σ) (hr.make C us [])
    (I2.env0.make C us []) (hb _ (Value.ref (s1.heap.objs.size + 1) :: us) I2.kIn hl) r2 hq) fun r s' hq' => ?_))
  cases r with
  | error e => exact hx σ pins _ _ e s' I2 hq'
  | ok fl =>
    cases fl with
    | ret u =>
      obtain ⟨v, H', I3, rv, ev, q3⟩ := I2.after hq'
      subst ev
      exact ⟨rv, ⟨V.ref (s1.heap.objs.size + 1), H', I3, rfl, q3⟩⟩
    | next => exact False.elim hq'
    | brk => exact False.elim hq'
    | cont => exact False.elim hq'
end
/-! ### an own error of one field -/
/-- X(v): self.f = v; what __init__ promises -/
def spErr (K : PySem.W.Frag) (f : Str) : Sp := fun vs H Q _ => ∃ (a C : Addr) (v : V), vs = [.ref a, v] ∧ H a = some (exo a C none) ∧ OexC K C ∧ PySem.W.findIn K (.ref C) f = some none ∧ ∀ dx, H dx = none → dx ≠ a → Q .non (upd (upd H dx (exd dx [(f, v)])) a (exo a C (some dx)))
theorem upd_del (H : Hp) (a d : Addr) (o1 o2 o3 o4 : HO) (ha : H a = none) (hd : d ≠ a) : upd (del (upd (upd (upd H a o1) d o2) a o3) a) d o4 = upd H d o4 := by
  funext b
  by_cases h : b = d
  · subst h
    rw [upd_same, upd_same]
  · rw [upd_ne h, upd_ne h]
    by_cases h2 : b = a
    · subst h2
      rw [del_same, ha]
    · rw [del_ne h2, upd_ne h2, upd_ne h, upd_ne h2]
theorem w_mkErr {K : PySem.W.Frag} {C : Addr} {f : Str} {ta : TA} {σ : St} {H : Hp} {Q : XK} (o : OexC K C) (n : PySem.W.findIn K (.ref C) f = some none) (q : ta σ H fun vs H1 => ∃ v, vs = [v] ∧ ∀ d, H1 d = none → Q (.ref C) (some d) (upd H1 d (.xd [(f, v)]))) (hm : ∀ {QA QB : List V → Hp → Prop}, (∀ vs H1, QA vs H1 → QB vs H1) → ta σ H QA → ta σ H QB) : tMkO C (spErr K f) [] ta σ H Q := by
  refine hm (fun vs H1 ⟨v, ev, hq⟩ => ?_) q
  subst ev
  refine ⟨by show 1 ≤ 1000; omega, fun a ha => ⟨a, C, v, rfl, upd_same, o, n, fun dx hdx hne => ?_⟩⟩
  rw [upd_ne hne] at hdx
  refine ⟨rfl, dx, [(f, v)], upd_same, (upd_ne hne).trans upd_same, hdx, ?_⟩
  rw [upd_del H1 a dx _ _ _ _ ha hne]
  exact hq dx hdx
end L2

namespace L2
open PySem PySem.Spec PyProof.Rows
/-! ### own errors: what is asked of their classes; readings -/
structure ErrN (K : PySem.W.Frag) (C : Addr) : Prop where
  isc : PySem.W.isClsIn K C = true
  typ : PySem.W.typeIn K (.ref C) = some (.type "type")
  exB : PySem.W.subIn K (.ref C) (.type "BaseException") = some true
  hd : PySem.W.hasDictIn K C = true
section
variable {K : PySem.W.Frag} {C D : Addr} {H : Hp} {Q : VK} {b : Bool} {a dd : Addr} {fs : List (Str × V)} {σ : St}
theorem kit_sub (e : ErrN K D) (self : PySem.W.subIn K (.ref C) (.ref C) = some true) (h : PySem.W.subIn K (.ref C) (.ref D) = some b) : PySem.W.kitOne K (.ref C) (.ref D) = some b := by
  unfold PySem.W.kitOne
  by_cases q : C = D
  · subst q
    rw [self] at h
    cases h
    exact if_pos (beq_self_eq_true _)
  · rw [if_neg (by intro z; exact q (Value.ref.inj (beq_iff_eq.mp z)))]
    have h1' : (PySem.W.clsIn K D).isSome = true := e.isc
    show (if ((PySem.W.clsIn K D).isSome && PySem.W.typeIn K (.ref D) == some (.type "type")) = true then PySem.W.subIn K (.ref C) (.ref D) else none) = some b
    rw [if_pos (by rw [h1', e.typ]; rfl)]
    exact h
theorem kit_VE (h : PySem.W.subIn K (.ref C) (.type "ValueError") = some true) : PySem.W.kitOne K (.ref C) (.type "ValueError") = some true := by
  unfold PySem.W.kitOne
  rw [if_neg (by intro z; cases (beq_iff_eq.mp z))]
  show (if PySem.W.kitMeta "ValueError" = true then PySem.W.subIn K (.ref C) (.type "ValueError") else none) = some true
  rw [if_pos (by decide +kernel)]
  exact h
theorem kit_nil : PySem.W.kitAny K (.ref C) [] = some false := rfl
theorem kit_cons {c : Value} {r : List Value} (h : PySem.W.kitOne K (.ref C) c = some false) (h2 : PySem.W.kitAny K (.ref C) r = some b) : PySem.W.kitAny K (.ref C) (c :: r) = some b := by
  unfold PySem.W.kitAny
  rw [h]
  exact h2
theorem kit_hit {c : Value} {r : List Value} (h : PySem.W.kitOne K (.ref C) c = some true) : PySem.W.kitAny K (.ref C) (c :: r) = some true := by
  unfold PySem.W.kitAny
  rw [h]
theorem exm_sub (e : ErrN K D) (h : PySem.W.subIn K (.ref C) (.ref D) = some b) : PySem.W.exmOne K (.ref C) (.ref D) = some b := PySem.W.exm_ref e.exB e.hd e.typ h
theorem w_isX (hd : H dd = some (.xd fs)) (ec : ExcC K C) (e : ErrN K D) (self : PySem.W.subIn K (.ref C) (.ref C) = some true) (h : PySem.W.subIn K (.ref C) (.ref D) = some b) (q : Q (.bl b) H) : rIsX K a (.ref C) (some dd) [.ref a, .ref D] H Q :=
  ⟨_, C, dd, fs, b, rfl, rfl, rfl, hd, ec, .inl ⟨_, .own D, kit_sub e self h⟩, q⟩
theorem w_isXV (hd : H dd = some (.xd fs)) (ec : ExcC K C) (h : PySem.W.subIn K (.ref C) (.type "ValueError") = some true) (q : Q (.bl true) H) : rIsX K a (.ref C) (some dd) [.ref a, .ty "ValueError"] H Q :=
  ⟨_, C, dd, fs, true, rfl, rfl, rfl, hd, ec, .inl ⟨_, .ty _, kit_VE h⟩, q⟩
theorem w_isXT {tp : Addr} {cs : List V} {us : List Value} (hd : H dd = some (.xd fs)) (ec : ExcC K C) (ht : H tp = some (.tup cs)) (hp : Paired ClsV cs us) (hk : PySem.W.kitAny K (.ref C) us = some b) (q : Q (.bl b) H) : rIsX K a (.ref C) (some dd) [.ref a, .ref tp] H Q :=
  ⟨_, C, dd, fs, b, rfl, rfl, rfl, hd, ec, .inr ⟨tp, cs, us, rfl, ht, hp, hk⟩, q⟩
theorem w_xf {f : Str} {te : TE} {v : V} (q : te σ H fun x H1 => x = .ref a ∧ H1 dd = some (.xd fs) ∧ fs.lookup f = some v ∧ Q v H1) (hm : ∀ {QA QB : VK}, (∀ x H1, QA x H1 → QB x H1) → te σ H QA → te σ H QB) : tXf a (.ref C) (some dd) C f te σ H Q :=
  hm (fun _ _ ⟨h1, h2, h3, h4⟩ => ⟨h1, rfl, dd, fs, v, rfl, h2, h3, h4⟩) q
theorem w_xfV {f : Str} {i : Nat} {v : V} (hi : σ[i]? = some (some (.ref a))) (hd : H dd = some (.xd fs)) (hl : fs.lookup f = some v) (q : Q v H) : tXf a (.ref C) (some dd) C f (tVar i) σ H Q :=
  ⟨.ref a, hi, rfl, rfl, dd, fs, v, rfl, hd, hl, q⟩
theorem w_mkErrV {f : Str} {i : Nat} {v : V} {QX : XK} (o : OexC K C) (n : PySem.W.findIn K (.ref C) f = some none) (h : σ[i]? = some (some v)) (q : ∀ d, H d = none → QX (.ref C) (some d) (upd H d (.xd [(f, v)]))) : tMkO C (spErr K f) [] (tCons (tVar i) tNil) σ H QX :=
  w_mkErr o n ⟨v, h, ⟨v, rfl, q⟩⟩ fun hq ⟨x, hx, z⟩ => ⟨x, hx, hq _ _ z⟩
theorem w_makeT {C : Addr} {sp : Sp} {dvs : List V} {E : L2.St → XK} {t : TA} {σ : L2.St} {H : Hp} {Q : VK} (q : t σ H fun vs H1 => ∀ x dx, H1 x = none → H1 dx = none → dx ≠ x → sp (.ref x :: (vs ++ dvs)) (upd (upd H1 dx (.own x)) x (.ins C dx [])) (fun v H2 => v = .non ∧ Q (.ref x) H2) (E σ)) : tMakeT C sp dvs E t σ H Q := q
theorem w_methT {C : Addr} {m : Str} {sp : Sp} {dvs : List V} {E : L2.St → XK} {ta : TE} {t : TA} {σ : L2.St} {H : Hp} {Q : VK} (q : ta σ H fun x H1 => ∃ a dx fs, x = .ref a ∧ H1 a = some (.ins C dx fs) ∧ fs.lookup m = none ∧ t σ H1 fun vs H2 => sp (x :: (vs ++ dvs)) H2 Q (E σ)) : tMethT C m sp dvs E ta t σ H Q := q
theorem w_callS {sp : Sp} {E : L2.St → XK} {t : TA} {σ : L2.St} {H : Hp} {Q : VK} (q : t σ H fun vs H1 => sp vs H1 Q (E σ)) : tCallS sp E t σ H Q := q
end
end L2

namespace L2
open PySem PySem.Spec PyProof.Rows
/-! ### defs that may ask for the repr of lists and tuples: they are called where no repr is under way -/
/-- as FnOk, but only where no repr is under way -/
structure FnG (P : Program) (w : World) (K : PySem.W.Frag) (mg : Str → Option Value) (base : Heap) (CX : CXT) (k : Nat) (f : Addr) (fd : FuncData) (ps : List Str) (sp : Sp) : Prop where
  len : ∀ vs H Q E, sp vs H Q E → vs.length = ps.length
  run : ∀ (A : Around) (outer : List Env) (s : Shared) (H : Hp) (args : Args) (us : List Value) (vs : List V) (Q : VK) (E : XK), A.guards = some [] → Room k A → Env0 P w K mg base A outer s H → BindsTo s fd args (ps.zip us) → Vals vs us → sp vs H Q E →
    codeAny (model P w) A (.call (.ref f) args) (CR CX outer P w H s Q E) s
section
variable {P : Program} {w : World} {K : PySem.W.Frag} {mg : Str → Option Value} {base : Heap} {CX : CXT}
theorem FnOk.toG {k : Nat} {f : Addr} {fd : FuncData} {ps : List Str} {sp : Sp} (F : FnOk P w K mg base CX k f fd ps sp) : FnG P w K mg base CX k f fd ps sp := ⟨F.len, fun A outer s H args us vs Q E _ hr => F.run A outer s H args us vs Q E hr⟩
/-- the body of such a def -/
theorem Fun.okG {x qual : Str} {st : Stmt} {f : Addr} {fd : FuncData} {N ps : List Str} {k : Nat} {sp : Sp} (F : Fun K x qual st f fd) (S : FnScope N ps (defScope st)) (len : ∀ vs H Q E, sp vs H Q E → vs.length = ps.length)
    (hbody : ∀ (cdv : Value) (A : Around) (outer : List Env) (s : Shared) (H : Hp) (vs : List V) (Q : VK) (E : XK), A.guards = some [] → Room k (A.deeper (envOfC qual (defScope st) s.heap.objs.size f cdv)) → sp vs H Q E →
      ∃ t, PSs (cxOf CX0 P w K mg base N qual (defScope st) f cdv A outer s H E).nox (defBody st) t ∧ t { nx := fun _ H' => Q .non H', rt := Q } (start N vs) H) : FnG P w K mg base CX0 (k + 1) f fd ps sp := by
  obtain ⟨oc, od, kV, doc, pm, an, cdv, ct, osl, rfl, lk, hcd⟩ := F.ex
  refine ⟨len, fun A outer s H args us vs Q E hA hr e0 hb r hsp => ?_⟩
  have hl := len _ _ _ _ hsp
  have kept : ∀ b o, base.get? b = some o → s.heap.get? b = some o := fun b o e => (e0.bs b o e).1
  have seen := e0.mod.kin.keeps kept
  refine codeAny_call_function hr.depth (seen _ _ lk) rfl S.co S.gen rfl (PySem.W.codeRec_of seen hcd) (hb _ _ _ _ (wpAny_newFunctionEnv_cells S.kind (fun ⟨n, v⟩ hy => ?_) fun env he s1 x => ?_))
  · exact (S.par n (List.of_mem_zip hy).1).imp id fun q => ⟨q, PySem.W.cellsFrom_some _ _ _ (.inl q)⟩
  · subst he
    obtain ⟨t, ht, hq⟩ := hbody cdv A outer s H vs Q E hA (hr.deeper _) hsp
    have I := inv_start (CX := CX0) (E := E) S hr.hd e0 hl r x
    refine ⟨(e0.mod.nolimit.keeps kept).keeps x.toInCall.keep, codeAny_func (wpAny_mono (ht.nox.run [] s1 (start N vs) H _ I hq) (fun fl s' hs => ?_) fun _ _ hs => hs)⟩
    cases fl with
    | next =>
      obtain ⟨_, H', J, q⟩ := hs
      exact ⟨.non, H', J.os, J.bare, J.base, J.hok, rfl, q⟩
    | ret u =>
      obtain ⟨v, _, H', J, rv, q⟩ := hs
      exact ⟨v, H', J.os, J.bare, J.base, J.hok, rv, q⟩
    | brk =>
      obtain ⟨_, _, _, q⟩ := hs
      exact q.elim
    | cont =>
      obtain ⟨_, _, _, q⟩ := hs
      exact q.elim
end
section
variable {X : Cx} {CX : CXT} {k : Nat} {f : Addr} {fd : FuncData} {ps : List Str} {sp : Sp} {E : XK} {x : Str} {p pos : Pos} {e : Expr} {es : List Expr} {t : TA}
/-- f(e, ..) of such a def -/
theorem pe_callG (F : FnG X.prog X.w X.K X.mg X.base CX k f fd ps sp) (hA : X.A.guards = some []) (hr : Room k X.A) (hg : Gl X x) (hm : X.mg x = some (.ref f)) (hk : PySem.W.keepIn X.K (.ref f) = true) (hb : Binds X.K fd ps []) (hx : Passes CX X E)
    (ha : PA X (e :: es) t) (hdb : (x == ("__debug__" : Str)) = false := by decide) (he : starEach (e :: es) X.env = (false, eval e X.env) :: starEach es X.env := by rfl) (hpl : (backTo pos (starEach es X.env)).any (·.1) = false := by rfl) :
    PE X (.Call (.Name x p) (e :: es) [] pos) (tCall sp [] E t) := by
  refine ⟨fun pins s σ H Q I h => wpAny_Call_Name_kw (ld_glob I hg hm ?_ hdb)⟩
  refine PySem.W.callWith_K (h₀ := X.base) I.ok.mod.kin hk (thn (ha.run pos pins s σ H _ I h) fun us s1 ⟨vs, H1, J, r, q⟩ => ⟨J.kIn, ?_⟩) he hpl
  have q : sp vs H1 Q E := by
    have h : sp (vs ++ []) H1 Q E := q
    rwa [List.append_nil] at h
  show wpAny _ _ (call (.ref f) us) _ _ _
  have b := hb s1 us J.kIn (by rw [List.append_nil, ← r.length]; exact F.len _ _ _ _ q)
  rw [List.append_nil] at b
  refine wpAny_call (codeAny_mono (F.run X.A X.stack s1 H1 ⟨us, []⟩ us vs Q E hA hr J.env0 b r q) fun r' s' z => ?_)
  match r', z with
  | .error e, z => exact hx pins σ H1 s1 e s' J z
  | .ok (.ret u), z => exact J.after z
  | .ok .next, z => exact False.elim z
  | .ok .brk, z => exact False.elim z
  | .ok .cont, z => exact False.elim z
/-- repr(v) of plain data -/
def rRepr (K : PySem.W.Frag) : List V → Hp → VK → Prop := fun xs H Q => ∃ (x : V) (d : PyData), xs = [x] ∧ Dp K H x d ∧ d.showable = true ∧ d.hasDict = false ∧ d.depth ≤ 30 ∧ (d.shown.length ≤ 10000 ∨ ∃ i, d = .int i) ∧ Q (.str d.shown) H
theorem call_reprG {X : Cx} (hA : X.A.guards = some []) (hu : X.A.units + 64 < cLine) : CallR X (.builtin "repr") (rRepr X.K) := by
  intro pins s σ H xs us Q I r h
  obtain ⟨x, d, rfl, hd, hs, hn, hdp, hz, q⟩ := h
  obtain ⟨u, rfl, rx⟩ := vals1 r
  obtain ⟨as, rd⟩ := Dp.reads I d x u hd rx
  have fits : (∀ i, d ≠ .int i) → d.shown.length ≤ sizeLine := fun h => by
    rcases hz with z | ⟨i, z⟩
    · rw [sizeLine_eq]; omega
    · exact absurd z (h i)
  cases hd with
  | non => cases (show u = Value.none from rx); exact PySem.P.repr_of_none ⟨.str (PyData.shown .none), H, I.tok _, ⟨_, rfl⟩, q⟩
  | bl b => cases (show u = Value.bool b from rx); exact PySem.P.repr_of_bool ⟨.str (PyData.shown (.bool b)), H, I.tok _, ⟨_, rfl⟩, q⟩
  | int i =>
    obtain ⟨t, rfl⟩ := (show ∃ t, u = Value.int i t from rx)
    exact PySem.P.repr_of_int (of_decide_eq_true hs) ⟨.str (PyData.shown (.int i)), H, I.tok _, ⟨_, rfl⟩, q⟩
  | str z =>
    obtain ⟨t, rfl⟩ := (show ∃ t, u = Value.str z t from rx)
    exact PySem.P.repr_of_str ⟨.str (PyData.shown (.str z)), H, I.tok _, ⟨_, rfl⟩, q⟩ (fits fun _ z => by cases z)
  | lst _ _ =>
    cases (show u = Value.ref _ from rx)
    exact repr_of_reads' rd hs (fun z => by rw [hn] at z; cases z) hA (by omega) (fun _ _ e => e) (fun h' t tk hk => ⟨.str (PyData.shown _), H, I.kept hk, ⟨_, rfl⟩, q⟩) (fits fun _ z => by cases z)
  | tup _ _ =>
    cases (show u = Value.ref _ from rx)
    exact repr_of_reads' rd hs (fun z => by rw [hn] at z; cases z) hA (by omega) (fun _ _ e => e) (fun h' t tk hk => ⟨.str (PyData.shown _), H, I.kept hk, ⟨_, rfl⟩, q⟩) (fits fun _ z => by cases z)
end
end L2
namespace L2
open PySem PySem.Spec PyProof.Rows
/-- the law's def, asked at the top, where no repr is under way -/
theorem law_askG {P : Program} {w : World} {K : PySem.W.Frag} {mg mb : Str → Option Value} {CX : CXT} {k : Nat} {fa a : Addr} {fd : FuncData} {x : Str} {sp : Sp} {s₁ : Shared} {vs : List Value} {ns : List Int}
    (KX : K.In s₁.heap) (hns : s₁.heap.Ns mainGlobals mg) (hb : s₁.heap.Ns builtinsNs mb) (hbb : ∀ x : Str, x ≠ "__name__" → mb x = bootBuiltins x) (hlim : s₁.heap.NoLimit) (hg : s₁.gens = #[])
    (ha : s₁.heap.get? a = some { cls := .type "list", data := .seq vs.toArray }) (hi : IntsAre vs ns) (hl : ns.length ≤ sizeLine) (hr : Room k callerA)
    (F : ∀ base : Heap, K.In base → base.Ns mainGlobals mg → FnG P w K mg base CX k fa fd [x] sp) (hbind : ∀ (s : Shared) (u : Value), BindsTo s fd ⟨[u], []⟩ [(x, u)])
    (hsp : ∀ H : Hp, Only H → SqL K H a (ns.map V.int) → sp [.ref a] H (fun v _ => v = .bl true) fun _ _ _ => False)
    (hCX : ∀ H e s', CX [] H s₁ (fun _ _ _ => False) e s' → False) :
    codeAny (model P w) callerA (.call (.ref fa) ⟨[.ref a], []⟩) (fun r s' => r = .ok (.ret (.bool true)) ∧ OldK s₁.heap s'.heap ∧ s'.os = s₁.os ∧ AllBare s'.gens) s₁ := by
  have rv := vals_ints hi
  -- what is told of the heap: the script, if it is none of the module's own objects
  obtain ⟨H, hH, hS, hok, hK⟩ : ∃ H : Hp, (∀ b, H b = none ∨ (b = a ∧ ∃ o xs, H b = some (.frz o (.lst xs)))) ∧ SqL K H a (ns.map V.int) ∧ HOk P w H s₁.heap ∧ (∀ b o, K.lookup b = some o → H b = none) := by
    cases hk : K.lookup a with
    | some o =>
      obtain rfl : o = { cls := .type "list", data := .seq vs.toArray } := Option.some.inj ((KX a o hk).symm.trans ha)
      exact ⟨fun _ => none, fun _ => .inl rfl, .inr ⟨_, vs.toArray, _, hk, rfl, rfl, rfl, by rw [List.size_toArray, hi.length]; exact hl, rv⟩, fun _ _ z => (by cases z), fun _ _ _ => rfl⟩
    | none =>
      refine ⟨fun b => if b = a then some (.frz { cls := .type "list", data := .seq vs.toArray } (.lst (ns.map V.int))) else none, fun b => ?_, .inl (.inr ⟨_, if_pos rfl⟩), fun b u z => ?_, fun b o hb => ?_⟩
      · by_cases e : b = a
        · exact .inr ⟨e, _, _, if_pos e⟩
        · exact .inl (if_neg e)
      · by_cases e : b = a
        · subst e
          cases (if_pos rfl).symm.trans z
          exact ⟨ha, by rw [List.length_map]; exact hl, vs, _, rv, ha⟩
        · cases (if_neg e).symm.trans z
      · refine if_neg fun e => ?_
        rw [e, hk] at hb
        cases hb
  have hO : Only H := fun b => (hH b).imp id fun h => h.2
  -- the ground: all but the script
  have keepNs : ∀ {b : Addr} {m : Str → Option Value}, s₁.heap.Ns b m → (hidT s₁.heap H).Ns b m := fun {b m} ⟨o, es, ep, e, d, r⟩ => by
    refine ⟨o, es, ep, hidT_get e ?_, d, r⟩
    rcases hH b with h | ⟨rfl, _⟩
    · exact h
    · cases ha.symm.trans e
      cases (show Data.seq vs.toArray _ = Data.dict es ep from d)
  have inK : K.In (hidT s₁.heap H) := fun b o e => hidT_get (KX b o e) (hK b o e)
  obtain ⟨mc, l1, l2⟩ := hlim
  have e0 : Env0 P w K mg (hidT s₁.heap H) callerA [] s₁ H := ⟨rfl, ⟨inK, keepNs hns, ⟨mb, keepNs hb, hbb⟩, ⟨mc, keepNs l1, l2⟩⟩, fun _ _ e => of_hidT e, Nat.le_of_eq (hidT_size _ _), trivial, fun _ z => (nomatch (show _ ∈ ([] : List Addr) from z)), hok, .of_eq hg⟩
  refine codeAny_mono ((F _ inK (keepNs hns)).run callerA [] s₁ H ⟨[.ref a], []⟩ [.ref a] [.ref a] _ _ rfl hr e0 (hbind s₁ (.ref a)) (.cons rfl .nil) (hsp H hO hS)) fun r s' h => ?_
  match r, h with
  | .error e, h => exact (hCX H e s' h).elim
  | .ok .next, h => exact False.elim h
  | .ok .brk, h => exact False.elim h
  | .ok .cont, h => exact False.elim h
  | .ok (.ret u), h =>
    obtain ⟨v, H', os, bare, un, hok', rv', hv⟩ := h
    obtain rfl : v = .bl true := hv
    obtain rfl : u = Value.bool true := rv'
    refine ⟨rfl, OldK.of_keep fun b o e => ?_, os, bare⟩
    rcases hH b with hb0 | ⟨_, ob, xs, hb0⟩
    · exact un.keep b o e hb0 (fun z => (nomatch (show b ∈ ([] : List Addr) from z))) (by simp)
    · obtain ⟨g1, _⟩ := hok b _ hb0
      cases g1.symm.trans e
      exact (hok' b _ (un.frzs b _ _ hb0)).1
theorem walk_ofG {l : PySem.W.OpenLaw} {n k : Nat} {q : Program} {loose : List Str} {XP : (Str → Option Value) → Heap → Prop} {YP : World → Heap → Prop} {d : DefRec} {K : Params → PySem.W.Frag} {CX : World → CXT} {sp : World → Sp} {x : Str}
    (hn : l.most = some n) (hn2 : n ≤ sizeLine) (hdf : d.params.defaults = []) (hr : Room k callerA) (hY : ∀ (w : World) (h : Heap), YP w h → (K w.params).In h)
    (F : ∀ (w : World) (mg : Str → Option Value) (fa : Addr) (h : Heap), (K w.params).In h → h.Ns mainGlobals mg → mg d.name = some (.ref fa) →
      ∃ fd : FuncData, (∀ (s : Shared) (u : Value), BindsTo s fd ⟨[u], []⟩ [(x, u)]) ∧ ∀ base : Heap, (K w.params).In base → base.Ns mainGlobals mg → FnG l.prog w (K w.params) mg base (CX w) k fa fd [x] (sp w))
    (hsp : ∀ (w : World) (H : Hp) (a : Addr) (ns : List Int), ns.length ≤ n → Only H → SqL (K w.params) H a (ns.map V.int) → sp w [.ref a] H (fun v _ => v = .bl true) fun _ _ _ => False)
    (hCX : ∀ (w : World) (H : Hp) (s : Shared) (e : Value) (s' : Shared), CX w [] H s (fun _ _ _ => False) e s' → False) :
    PySem.W.WalkO q loose XP YP l.row.toRowW d [] (fun f vs => PySem.call f vs) :=
  Att.attach_call hn hdf fun w s₀ s₁ mg mb fa o pm cd doc a vs ns G Y ho hd hcd hmg hobj hints hlen hg => by
    obtain ⟨fd, hb, hF⟩ := F w mg fa _ (hY w _ Y) G.T.g hmg
    exact law_askG (hY w _ Y) G.T.g G.T.b G.T.builtins G.T.nolimit hg hobj hints (Nat.le_trans hlen hn2) hr hF hb (fun H hO hS => hsp w H a ns hlen hO hS) fun H e s' => hCX w H s₁ e s'
end L2

namespace L2
open PySem PySem.Spec PyProof.Rows
/-! ### own errors whose context is told: raised, caught, handed on to a def -/
section
variable {P : Program} {w : World} {K : PySem.W.Frag} {mg : Str → Option Value} {base : Heap}
/-- a def that may raise -/
theorem Fun.okN {x qual : Str} {st : Stmt} {f : Addr} {fd : FuncData} {N ps : List Str} {k : Nat} {sp : Sp} (F : Fun K x qual st f fd) (S : FnScope N ps (defScope st)) (len : ∀ vs H Q E, sp vs H Q E → vs.length = ps.length)
    (hbody : ∀ (cdv : Value) (A : Around) (outer : List Env) (s : Shared) (H : Hp) (vs : List V) (Q : VK) (E : XK), Room k (A.deeper (envOfC qual (defScope st) s.heap.objs.size f cdv)) → sp vs H Q E →
      ∃ t, PSs (cxOf (L2N.CX P w) P w K mg base N qual (defScope st) f cdv A outer s H E) (defBody st) t ∧ t { nx := fun _ H' => Q .non H', rt := Q } (start N vs) H) : FnOk P w K mg base (L2N.CX P w) (k + 1) f fd ps sp := by
  obtain ⟨oc, od, kV, doc, pm, an, cdv, ct, osl, rfl, lk, hcd⟩ := F.ex
  exact fn_of lk hcd S len (hbody cdv)
theorem passN {X : Cx} : Passes (L2N.CX X.prog X.w) X E0 := fun _ _ _ _ _ _ _ ⟨_, _, _, _, _, _, _, _, _, _, _, _, z⟩ => z.elim
theorem takesN0 {X : Cx} : L2N.Takes X (fun _ _ _ _ => False) := fun _ _ ⟨_, _, _, _, _, _, _, _, _, _, _, _, _, _, _, _, z⟩ => z.elim
/-- an own error made by its own __init__, its context told -/
theorem pmk_oexN {X : Cx} {CX : CXT} {x : Str} {e : Expr} {es : List Expr} {ta : TA} {p pos : Pos} {C fI : Addr} {k : Nat} {fd : FuncData} {ps : List Str} {sp : Sp} (T : OexC X.K C) (iC : PySem.W.findIn X.K (.ref C) "__init__" = some (some (.ref fI))) (tI : PySem.W.typeIn X.K (.ref fI) = some (.type "function"))
    (F1 : FnOk X.prog X.w X.K X.mg X.base CX k fI fd ps sp) (hr : Room (k + 1) X.A) (hb : Binds X.K fd ps []) (hx : Passes CX X (fun _ _ _ => False)) (hg : Gl X x) (hm : X.mg x = some (.ref C)) (ha : PA X (e :: es) ta)
    (hdb : (x == ("__debug__" : Str)) = false := by decide) (he : starEach (e :: es) X.env = (false, eval e X.env) :: starEach es X.env := by rfl) (hpl : (backTo pos (starEach es X.env)).any (·.1) = false := by rfl) :
    L2N.PMk X (.Call (.Name x p) (e :: es) [] pos) (tMkO C sp [] ta) := by
  intro pins s σ H Q I h
  obtain ⟨_, _, _, _, bm, _, _, _, _, _, _, _, _, _, _, hC, hbm⟩ := T.cls
  refine wpAny_Call_Name_kw (ld_glob I hg hm ?_ hdb)
  refine PySem.W.callWith_K (h₀ := X.base) I.ok.mod.kin T.kC (thn (ha.run pos pins s σ H _ I h) fun us ⟨hp, g, dr, tk, os⟩ ⟨vs, H1, J, r, hz, q⟩ => ⟨J.kIn, ?_⟩) he hpl
  show wpAny _ _ (call (.ref C) us) _ _ _
  -- where the error will stand
  let n := hp.objs.size + 1
  have hn : hp.objs.size ≤ n := Nat.le_succ _
  let hp2 := (hp.push (PySem.W.kdv_tup us)).push (PySem.HandSPX.excO C hp.objs.size)
  have keeps : ∀ b o, hp.get? b = some o → hp2.get? b = some o := fun b o z => Heap.get?_push_of_some _ (Heap.get?_push_of_some _ z)
  have there : hp2.get? n = some (PySem.HandSPX.excO C hp.objs.size) := by
    show ((hp.push (PySem.W.kdv_tup us)).push (PySem.HandSPX.excO C hp.objs.size)).get? (hp.objs.size + 1) = _
    heap_get
  have J2 : Inv X pins σ (upd H1 n (exo n C none)) ⟨hp2, g, dr, tk, os⟩ := J.laid (t' := tk) keeps hn (exo_ok there)
  have q1 := q n (J.hok.fresh hn)
  rw [List.append_nil] at q1
  have r2 : Vals (V.ref n :: vs) (Value.ref n :: us) := .cons rfl r
  have b2 := hb ⟨hp2, g, dr, tk, os⟩ (Value.ref n :: us) J2.kIn (by rw [List.append_nil, ← r2.length]; exact F1.len _ _ _ _ q1)
  rw [List.append_nil] at b2
  refine wpAny_call (PySem.HandSPX.call_own F.excBase_ValueError (fun Y => PySem.HandSPX.refsVE_contains Y bm hbm) (J.kIn _ _ hC) (PySem.W.looks_findIn J.kIn iC) (fun self => PySem.W.bind_fn J.kIn self tI) (by rw [← Paired.length r, sizeLine_eq]; omega)
    (codeAny_mono (F1.run _ X.stack _ _ ⟨Value.ref n :: us, []⟩ _ _ _ (fun _ _ _ => False) (hr.make C us []) (J2.env0.make C us []) b2 r2 q1) fun r' ⟨h2, g2, d2, t2, o2⟩ z => ?_))
  match r', z with
  | .error er, z => exact hx pins σ _ _ er _ J2 z
  | .ok .next, z => exact False.elim z
  | .ok .brk, z => exact False.elim z
  | .ok .cont, z => exact False.elim z
  | .ok (.ret u), z =>
    obtain ⟨v, H2, eo, bare, un, hok, rv, ev, d, fs, ea, ed, hd, qq⟩ := z
    subst ev
    obtain ⟨t0, G, JG, kG, gn, hoe, na⟩ := mk_end0 (d2 := d2) (t2 := t2) J hn keeps un hok eo bare ea ed hd
    exact ⟨rv, n, _, _, ⟨G, g2, d2, t2, o2⟩, _, .ref C, some d, rfl, JG, kG, gn, hoe, ⟨rfl, rfl, fun vs hv => by cases hv; rfl⟩, rfl, rfl, na, rfl, bare, raises_own T.exC T.tyC, qq⟩
end
end L2
namespace L2
open PySem PySem.Spec PyProof.Rows
/-! ### a def to which the caught error is handed -/
/-- err.f, wherever the error is kept aside -/
theorem pe_xfP {X : Cx} {a C : Addr} {oe : Obj} {cls : Value} {d : Option Addr} {e : Expr} {te : TE} {pos : Pos} {n : Str} (T : XfC X.K C) (hno : PySem.W.findIn X.K (.ref C) n = some none) (hp : (a, oe) ∈ X.pn) (hz : Zc cls d oe) (hf : ∃ vs, oe.data = .fields vs) (he : PE X e te)
    (hb : attributeBase e n X.env (eval e X.env) = eval e X.env := by rfl) : PE X (.Attribute e n pos) (tXf a cls d C n te) := by
  refine ⟨fun pins s σ H Q I h => attr_of hb (thn (he.run pins s σ H _ I h) fun u s1 ⟨x, H1, J, rx, ex, ec, dd, fs, v, ed, ea, l, q⟩ => ?_)⟩
  subst ex ec ed
  obtain rfl : u = Value.ref a := rx
  obtain ⟨vs, hv⟩ := hf
  obtain ⟨mA, hns, hr⟩ := (show ObjOk X.prog X.w H1 s1.heap dd (.xd fs) from J.hok dd _ ea)
  obtain ⟨od, ho, hl⟩ := lookIn_ns hns
  obtain ⟨u', hu, ru⟩ := RelO.some_of (v := v) (o := mA n) (by rw [← l]; exact hr n)
  have inst : PySem.W.InstAt s1.heap a oe C (some od) := ⟨(J.pin (a, oe) (List.mem_append_left _ hp)).1, hz.1, by unfold PySem.W.notCls; rw [hv] <;> rfl, by rw [hz.2]; exact ho⟩
  exact HandSPX.exc_get J.kIn inst T.ga T.gg T.exC (PySem.W.findObj_own T.hdC hno rfl (by rw [hl, hu])) (handed_of ru) ⟨v, H1, J.tok _, ru, q⟩
theorem _root_.L2H.RoomH.units {k : Nat} {A : Around} (r : L2H.RoomH k A) : A.units + 64 < cLine := by have := r.un; omega
structure FnE (P : Program) (w : World) (K : PySem.W.Frag) (mg : Str → Option Value) (base : Heap) (k : Nat) (f : Addr) (fd : FuncData) (ps : List Str) (sp : Addr → Value → Option Addr → Sp) : Prop where
  len : ∀ a cls d vs H Q E, sp a cls d vs H Q E → vs.length = ps.length
  run : ∀ (A : Around) (outer : List Env) (s : Shared) (H : Hp) (args : Args) (us : List Value) (vs : List V) (Q : VK) (a : Addr) (oe : Obj) (cls : Value) (d : Option Addr), A.guards = some [] → L2H.RoomH k A → L2H.Hot1 A (a, oe) → Zc cls d oe → L2H.PinOk outer H s (a, oe) →
    Env0 P w K mg base A outer s H → BindsTo s fd args (ps.zip us) → Vals vs us → sp a cls d vs H Q E0 → codeAny (model P w) A (.call (.ref f) args) (CR CX0 outer P w H s Q E0) s
section
variable {P : Program} {w : World} {K : PySem.W.Frag} {mg : Str → Option Value} {base : Heap}
theorem Fun.okE {x qual : Str} {st : Stmt} {f : Addr} {fd : FuncData} {N ps : List Str} {k : Nat} {sp : Addr → Value → Option Addr → Sp} (F : Fun K x qual st f fd) (S : FnScope N ps (defScope st)) (len : ∀ a cls d vs H Q E, sp a cls d vs H Q E → vs.length = ps.length)
    (hbody : ∀ (cdv : Value) (A : Around) (outer : List Env) (s : Shared) (H : Hp) (vs : List V) (Q : VK) (a : Addr) (oe : Obj) (cls : Value) (d : Option Addr), A.guards = some [] → Zc cls d oe → (∃ vs, oe.data = .fields vs) → L2H.RoomH k (A.deeper (envOfC qual (defScope st) s.heap.objs.size f cdv)) → sp a cls d vs H Q E0 →
      ∃ t, PSs (L2H.cxH CX0 P w K mg base N qual (defScope st) f cdv A outer s H E0 (a, oe)) (defBody st) t ∧ t { nx := fun _ H' => Q .non H', rt := Q } (start N vs) H) : FnE P w K mg base (k + 1) f fd ps sp := by
  obtain ⟨oc, od, kV, doc, pm, an, cdv, ct, osl, rfl, lk, hcd⟩ := F.ex
  refine ⟨len, fun A outer s H args us vs Q a oe cls d hA hr hot hz hpin e0 hb r hsp => ?_⟩
  have hl := len _ _ _ _ _ _ _ hsp
  have kept : ∀ b o, base.get? b = some o → s.heap.get? b = some o := fun b o e => (e0.bs b o e).1
  have seen := e0.mod.kin.keeps kept
  refine codeAny_call_function hr.depth (seen _ _ lk) rfl S.co S.gen rfl (PySem.W.codeRec_of seen hcd) (hb _ _ _ _ (wpAny_newFunctionEnv_cells S.kind (fun ⟨n, v⟩ hy => ?_) fun env he s1 x => ?_))
  · exact (S.par n (List.of_mem_zip hy).1).imp id fun q => ⟨q, PySem.W.cellsFrom_some _ _ _ (.inl q)⟩
  · subst he
    obtain ⟨v0, hv0, _⟩ := hot.2
    obtain ⟨t, ht, hq⟩ := hbody cdv A outer s H vs Q a oe cls d hA hz ⟨v0, hv0⟩ (hr.deeper _) hsp
    have I := L2H.inv_startH (CX := CX0) (E := E0) S hpin e0 hl r x
    refine ⟨(e0.mod.nolimit.keeps kept).keeps x.toInCall.keep, codeAny_func (wpAny_mono (ht.run [] s1 (start N vs) H _ I hq) (fun fl s' hs => ?_) fun _ _ hs => hs)⟩
    cases fl with
    | next =>
      obtain ⟨_, H', J, q⟩ := hs
      exact ⟨.non, H', J.os, J.bare, J.base, J.hok, rfl, q⟩
    | ret u =>
      obtain ⟨v, _, H', J, rv, q⟩ := hs
      exact ⟨v, H', J.os, J.bare, J.base, J.hok, rv, q⟩
    | brk =>
      obtain ⟨_, _, _, q⟩ := hs
      exact q.elim
    | cont =>
      obtain ⟨_, _, _, q⟩ := hs
      exact q.elim
end
/-- f(e, ..) within the suite -/
theorem pe_callE {X : Cx} {k : Nat} {f : Addr} {fd : FuncData} {ps : List Str} {sp : Addr → Value → Option Addr → Sp} {x : Str} {p pos : Pos} {e : Expr} {es : List Expr} {t : TA} {a : Addr} {oe : Obj} {cls : Value} {d : Option Addr} {pn : List (Addr × Obj)}
    (F : FnE X.prog X.w X.K X.mg X.base k f fd ps sp) (hA : X.A.guards = some []) (hr : Room k X.A) (hz : L2N.Zn cls d oe) (hf : ∃ vs, oe.data = .fields vs) (hg : Gl X x) (hm : X.mg x = some (.ref f)) (hk : PySem.W.keepIn X.K (.ref f) = true) (hb : Binds X.K fd ps [])
    (ha : PA (X.suite a ((a, oe) :: pn)) (e :: es) t) (hdb : (x == ("__debug__" : Str)) = false := by decide) (he : starEach (e :: es) X.env = (false, eval e X.env) :: starEach es X.env := by rfl) (hpl : (backTo pos (starEach es X.env)).any (·.1) = false := by rfl) :
    PE (X.suite a ((a, oe) :: pn)) (.Call (.Name x p) (e :: es) [] pos) (tCall (sp a cls d) [] E0 t) := by
  refine ⟨fun pins s σ H Q I h => wpAny_Call_Name_kw (ld_glob (X := X.suite a ((a, oe) :: pn)) I hg hm ?_ hdb)⟩
  refine PySem.W.callWith_K (h₀ := X.base) I.ok.mod.kin hk (thn (ha.run pos pins s σ H _ I h) fun us s1 ⟨vs, H1, J, r, q⟩ => ⟨J.kIn, ?_⟩) he hpl
  have q : sp a cls d vs H1 Q E0 := by
    have h : sp a cls d (vs ++ []) H1 Q E0 := q
    rwa [List.append_nil] at h
  show wpAny _ _ (call (.ref f) us) _ _ _
  have b := hb s1 us J.kIn (by rw [List.append_nil, ← r.length]; exact F.len _ _ _ _ _ _ _ q)
  rw [List.append_nil] at b
  obtain ⟨v0, hv0⟩ := hf
  have P1 := J.pin (a, oe) (List.mem_append_left _ List.mem_cons_self)
  have pin : L2H.PinOk X.stack H1 s1 (a, oe) := ⟨P1.1, P1.2.1, fun z => (List.mem_cons.mp (J.stkSub a z)).elim P1.2.2.1 P1.2.2.2.1, P1.2.2.2.2⟩
  refine wpAny_call (codeAny_mono (F.run (X.A.mark (some (.ref a))) X.stack s1 H1 ⟨us, []⟩ us vs Q a oe cls d hA ⟨hr.dp, hr.un⟩ ⟨rfl, v0, hv0, hz.2.2 _ hv0⟩ hz.zc pin J.env0 b r q) fun r' s' z => ?_)
  match r', z with
  | .error _, z => exact False.elim z
  | .ok (.ret u), z => exact J.after z
  | .ok .next, z => exact False.elim z
  | .ok .brk, z => exact False.elim z
  | .ok .cont, z => exact False.elim z
end L2
namespace L2
open PySem PySem.Spec PyProof.Rows
section
variable {P : Program} {w : World} {K : PySem.W.Frag} {mg : Str → Option Value} {base : Heap} {CX : CXT} {k : Nat} {f : Addr} {fd : FuncData} {ps : List Str} {sp sp' : Sp}
/-- where nothing is let out, anything may be promised of it -/
theorem FnOk.cx0 (F : FnOk P w K mg base CX0 k f fd ps sp) : FnOk P w K mg base CX k f fd ps sp := ⟨F.len, fun A outer s H args us vs Q E hr e0 hb r h => codeAny_mono (F.run A outer s H args us vs Q E hr e0 hb r h) fun r' s' z => by
  match r', z with
  | .error _, z => exact False.elim z
  | .ok (.ret u), z => exact z
  | .ok .next, z => exact z
  | .ok .brk, z => exact z
  | .ok .cont, z => exact z⟩
theorem FnOk.or (F : FnOk P w K mg base CX k f fd ps sp) (F' : FnOk P w K mg base CX k f fd ps sp') : FnOk P w K mg base CX k f fd ps (fun vs H Q E => sp vs H Q E ∨ sp' vs H Q E) :=
  ⟨fun vs H Q E h => h.elim (F.len vs H Q E) (F'.len vs H Q E), fun A outer s H args us vs Q E hr e0 hb r h => h.elim (F.run A outer s H args us vs Q E hr e0 hb r) (F'.run A outer s H args us vs Q E hr e0 hb r)⟩
end
/-- o.m() in a try -/
theorem pe_methT0 {X : Cx} {CX : CXT} {k : Nat} {f C : Addr} {fd : FuncData} {ps : List Str} {sp : Sp} {E : St → XK} {m : Str} {pos apos : Pos} {o : Expr} {ta : TE} {pl : Sem Bool} (he : PE X o ta) (c : Cls X.K C) (hm : Meth X.K C m f) (F : FnOk X.prog X.w X.K X.mg X.base CX k f fd ps sp) (hr : Room k X.A) (hb : Binds X.K fd ps []) (hx : ∀ σ, PassesAt CX X σ (E σ))
    (ht : eval (.Call (.Attribute o m apos) [] [] pos) X.env = (do
      let ov ← eval o X.env
      standAt apos.atName
      let (f, first) ← holding [ov] (getMethod ov m pl)
      callWith pos f first (backTo pos (starEach [] X.env)) (backToKw pos (keywordEach [] X.env))) := by rfl) :
    PE X (.Call (.Attribute o m apos) [] [] pos) (tMethT C m sp [] E ta tNil) := by
  refine ⟨fun pins s σ H Q I h => PySem.W.methodCall_KW (pl := pl) (thn (he.run pins s σ H _ I h) fun u s1 ⟨x, H1, J, rx, a, dx, fs, ex, ea, l, q⟩ => ?_) ht⟩
  subst ex
  obtain rfl : u = Value.ref a := rx
  exact getmeth_ok J ea c hm l (PySem.W.callWith_K0 (first := [.ref a]) J.kIn hm.kp (run_fnT (us := [.ref a]) (vs := [.ref a]) F hr hb .nil (hx σ) J (.cons rfl .nil) q))
end L2
namespace L2
open PySem PySem.Spec PyProof.Rows
theorem k_isX {X : Cx} {K : PySem.W.Frag} {a : Addr} {oe : Obj} {cls : Value} {d : Option Addr} (hK : X.K = K) (hp : (a, oe) ∈ X.pn) (hz : Zc cls d oe) (hf : ∃ vs, oe.data = .fields vs) : CallR X (.builtin "isinstance") (rIsX K a cls d) := by
  subst hK
  exact call_isX hp hz hf
theorem k_reprG {X : Cx} {K : PySem.W.Frag} (hK : X.K = K) (hA : X.A.guards = some []) (hu : X.A.units + 64 < cLine) : CallR X (.builtin "repr") (rRepr K) := by
  subst hK
  exact call_reprG hA hu
end L2

namespace L2
open PySem PySem.Spec PyProof.Rows
/-! ### f(e, .., k = v, ..) in a try or in a def that may raise: what may be let out, at the slots as they stand -/
section
variable {X : Cx} {CX : CXT} {k n : Nat} {f : Addr} {fd : FuncData} {ps ks : List Str} {sp : Sp} {E : St → XK} {x : Str} {p pos : Pos} {e : Expr} {es : List Expr} {kws : List Keyword} {t tk : TA} {g : List Value → List Value → List Value} {gV : List V → List V → List V}
theorem run_fnNT {pins : List (Addr × Obj)} {σ : St} {H : Hp} {s : Shared} {Q : VK} {us ws : List Value} {vs zs : List V} (F : FnOk X.prog X.w X.K X.mg X.base CX k f fd ps sp) (hr : Room k X.A) (hb : KBn X.K fd ps n ks g gV) (hx : PassesAt CX X σ (E σ))
    (I : Inv X pins σ H s) (r : Vals vs us) (rz : Vals zs ws) (l1 : vs.length = n) (l2 : zs.length = ks.length) (h : sp (gV vs zs) H Q (E σ)) : wpAny (model X.prog X.w) X.A (call (.ref f) us (ks.zip ws)) (EP X pins σ Q) X.xe s := by
  have r2 := hb.rel r rz
  refine wpAny_call (codeAny_mono (F.run X.A X.stack s H ⟨us, ks.zip ws⟩ (g us ws) (gV vs zs) Q (E σ) hr I.env0 (hb.to s us ws I.kIn (r.length.symm.trans l1) (rz.length.symm.trans l2)) r2 h) fun r s' hq => ?_)
  cases r with
  | error e => exact hx pins H s e s' I hq
  | ok fl =>
    cases fl with
    | ret u => exact I.after hq
    | next => exact False.elim hq
    | brk => exact False.elim hq
    | cont => exact False.elim hq
def tCallNT (n m : Nat) (sp : Sp) (gV : List V → List V → List V) (E : St → XK) (t tk : TA) : TE := fun σ H Q => t σ H fun vs H1 => tk σ H1 fun zs H2 => vs.length = n ∧ zs.length = m ∧ sp (gV vs zs) H2 Q (E σ)
theorem pe_callNT (F : FnOk X.prog X.w X.K X.mg X.base CX k f fd ps sp) (hr : Room k X.A) (hg : Gl X x) (hm : X.mg x = some (.ref f)) (hk : PySem.W.keepIn X.K (.ref f) = true) (hb : KBn X.K fd ps n ks g gV) (hx : ∀ σ, PassesAt CX X σ (E σ))
    (ha : PA X (e :: es) t) (hkw : PK X kws tk) (hall : (backToKw pos (keywordEach kws X.env)).all (·.1.isSome) = true := by rfl) (hks : (backToKw pos (keywordEach kws X.env)).filterMap (·.1) = ks := by rfl)
    (hdb : (x == ("__debug__" : Str)) = false := by decide) (he : starEach (e :: es) X.env = (false, eval e X.env) :: starEach es X.env := by rfl)
    (hpl : ((backTo pos (starEach (e :: es) X.env)).any (·.1) || (backToKw pos (keywordEach kws X.env)).any (·.1.isNone)) = false := by rfl) :
    PE X (.Call (.Name x p) (e :: es) kws pos) (tCallNT n ks.length sp gV E t tk) := by
  refine ⟨fun pins s σ H Q I h => ?_⟩
  refine wpAny_Call_Name_kw (ld_glob I hg hm ?_ hdb)
  refine PySem.W.callWith_KW (h₀ := X.base) I.ok.mod.kin hk hall (thn (ha.run pos pins s σ H _ I h) fun us s1 ⟨vs, H1, I1, r, q⟩ => ?_) hpl he
  refine thn (hkw.run pos pins s1 σ H1 _ I1 q) fun ws s2 ⟨zs, H2, I2, rz, l1, l2, q2⟩ => ⟨I2.kIn, ?_⟩
  rw [hks]
  exact run_fnNT F hr hb (hx σ) I2 r rz l1 l2 q2
theorem w_callN {n m : Nat} {sp : Sp} {gV : List V → List V → List V} {E : XK} {t tk : TA} {σ : L2.St} {H : Hp} {Q : VK} (q : t σ H fun vs H1 => tk σ H1 fun zs H2 => vs.length = n ∧ zs.length = m ∧ sp (gV vs zs) H2 Q E) : tCallN n m sp gV E t tk σ H Q := q
theorem w_callNT {n m : Nat} {sp : Sp} {gV : List V → List V → List V} {E : L2.St → XK} {t tk : TA} {σ : L2.St} {H : Hp} {Q : VK} (q : t σ H fun vs H1 => tk σ H1 fun zs H2 => vs.length = n ∧ zs.length = m ∧ sp (gV vs zs) H2 Q (E σ)) : tCallNT n m sp gV E t tk σ H Q := q
end
end L2

namespace L2
open PySem PySem.Spec PyProof.Rows
/-! ### data whose repr is short -/
structure ShW (d : PyData) (n w : Nat) : Prop where
  ok : d.showable = true
  nod : d.hasDict = false
  deep : d.depth ≤ n
  short : d.leavesShort 13 = true
  wt : d.bulk ≤ w
structure ShA (ds : List PyData) (n w : Nat) : Prop where
  ok : PyData.showableAll ds = true
  nod : PyData.hasDictAll ds = false
  deep : PyData.depthAll ds ≤ n
  short : PyData.leavesShortAll 13 ds = true
  wt : PyData.bulkAll ds ≤ w
theorem log_sm {n : Nat} (h : n < 10 ^ 12) : n.log2 < 1920 := by
  by_cases h0 : n = 0
  · rw [h0]; decide
  · have h2 : n < 2 ^ 40 := Nat.lt_of_lt_of_le h (by decide)
    exact Nat.lt_of_lt_of_le ((Nat.log2_lt h0).mpr h2) (by omega)
theorem ShW.int {i : Int} (h : i.natAbs < 10 ^ 12) : ShW (.int i) 0 0 :=
  ⟨by simp only [PyData.showable]; exact decide_eq_true (log_sm h), by simp only [PyData.hasDict], by simp only [PyData.depth]; exact Nat.le_refl _, by simp only [PyData.leavesShort]; exact decide_eq_true (PyData.shown_int_le h), by simp only [PyData.bulk]; exact Nat.le_refl _⟩
theorem ShA.nil {n w : Nat} : ShA [] n w := ⟨by simp only [PyData.showableAll], by simp only [PyData.hasDictAll], by simp only [PyData.depthAll]; exact Nat.zero_le _, by simp only [PyData.leavesShortAll], by simp only [PyData.bulkAll]; exact Nat.zero_le _⟩
theorem ShA.cons {d : PyData} {ds : List PyData} {n w w' : Nat} (h : ShW d n w) (h' : ShA ds n w') : ShA (d :: ds) n (w + 1 + w') :=
  ⟨by simp only [PyData.showableAll, h.ok, h'.ok, Bool.and_self], by simp only [PyData.hasDictAll, h.nod, h'.nod, Bool.or_self], by
    simp only [PyData.depthAll]
    exact Nat.max_le.mpr ⟨h.deep, h'.deep⟩, by simp only [PyData.leavesShortAll, h.short, h'.short, Bool.and_self], by
    simp only [PyData.bulkAll]
    have := h.wt
    have := h'.wt
    omega⟩
theorem ShA.lst {ds : List PyData} {n w : Nat} (h : ShA ds n w) : ShW (.list ds) (n + 1) w :=
  ⟨by simp only [PyData.showable, h.ok], by simp only [PyData.hasDict, h.nod], by
    simp only [PyData.depth]
    have := h.deep
    omega, by simp only [PyData.leavesShort, h.short], by simp only [PyData.bulk]; exact h.wt⟩
theorem ShA.tup {ds : List PyData} {n w : Nat} (h : ShA ds n w) : ShW (.tuple ds) (n + 1) w :=
  ⟨by simp only [PyData.showable, h.ok], by simp only [PyData.hasDict, h.nod], by
    simp only [PyData.depth]
    have := h.deep
    omega, by simp only [PyData.leavesShort, h.short], by simp only [PyData.bulk]; exact h.wt⟩
theorem ShA.map {α : Type} {f : α → PyData} {n w : Nat} : ∀ {ds : List α}, (∀ d ∈ ds, ShW (f d) n w) → ShA (ds.map f) n ((w + 1) * ds.length)
  | [], _ => .nil
  | d :: r, h => by
    have := ShA.cons (h d List.mem_cons_self) (ShA.map (ds := r) fun x hx => h x (List.mem_cons_of_mem _ hx))
    rw [List.map_cons, List.length_cons, Nat.mul_add, Nat.mul_one, Nat.add_comm ((w + 1) * r.length)]
    exact this
theorem ShW.up {d : PyData} {n w n' w' : Nat} (h : ShW d n w) (hn : n ≤ n') (hw : w ≤ w') : ShW d n' w' := ⟨h.ok, h.nod, Nat.le_trans h.deep hn, h.short, Nat.le_trans h.wt hw⟩
theorem w_repr {K : PySem.W.Frag} {H : Hp} {Q : VK} {x : V} {d : PyData} {n w : Nat} (hd : Dp K H x d) (hs : ShW d n w) (hn : n ≤ 30) (hw : w ≤ 600) (q : Q (.str d.shown) H) : rRepr K [x] H Q := by
  refine ⟨x, d, rfl, hd, hs.ok, hs.nod, Nat.le_trans hs.deep hn, .inl ?_, q⟩
  have h := PyData.shown_le_bulk 13 (by omega) d hs.short
  have h2 : (13 + 2) * d.bulk ≤ 15 * 600 := Nat.mul_le_mul (by omega) (Nat.le_trans hs.wt hw)
  omega
theorem w_neSS {K : PySem.W.Frag} {H : Hp} {Q : VK} {s : Str} (q : Q (.bl false) H) : rNeG K (.str s) (.str s) H Q := .inl ⟨rfl, by
  rw [decide_eq_true rfl]; exact q⟩
theorem w_eqSS {K : PySem.W.Frag} {H : Hp} {Q : VK} {s : Str} (q : Q (.bl true) H) : rEqG K (.str s) (.str s) H Q := .inl ⟨rfl, by
  rw [decide_eq_true rfl]; exact q⟩
theorem w_eqSD {K : PySem.W.Frag} {H : Hp} {Q : VK} {s t : Str} (h : s ≠ t) (q : Q (.bl false) H) : rEqG K (.str s) (.str t) H Q := .inl ⟨rfl, by
  rw [decide_eq_false (fun e => h (V.str.inj e))]; exact q⟩
theorem w_neSD {K : PySem.W.Frag} {H : Hp} {Q : VK} {s t : Str} (h : s ≠ t) (q : Q (.bl true) H) : rNeG K (.str s) (.str t) H Q := .inl ⟨rfl, by
  rw [decide_eq_false (fun e => h (V.str.inj e))]; exact q⟩
theorem w_neBB {K : PySem.W.Frag} {H : Hp} {Q : VK} {b : Bool} (q : Q (.bl false) H) : rNeG K (.bl b) (.bl b) H Q := .inl ⟨rfl, by
  rw [decide_eq_true rfl]; exact q⟩
/-! ### new objects, the heap told anew -/
theorem w_newO {H : Hp} {o : HO} {F : Addr → Hp → Prop} (q : ∀ p H', H p = none → Same H H' → H' p = some o → F p H') : ∀ p, H p = none → F p (upd H p o) := fun p hp => q p _ hp (Same.new hp) upd_same
theorem sqU {K : PySem.W.Frag} {H : Hp} {q p : Addr} {xs ys : List V} {o : HO} (hq : H q = some (.lst xs)) (h : Sq false K H p ys) : Sq false K (upd H q o) p ys := by
  obtain ⟨_, e, h⟩ := RTup.upd (R := RRw false K) RRw.tup RRw.mono (o := o) (NTup.lst hq) ⟨p, rfl, h⟩
  cases e
  exact h
end L2
namespace L2
open PySem PySem.Spec PyProof.Rows
section
variable {K : PySem.W.Frag} {σ : St} {H : Hp} {Q : VK}
/-- a new object, n long -/
def NewO (Q : VK) (H : Hp) (n : Nat) (o : HO) : Prop := n ≤ sizeLine ∧ ∀ p, H p = none → Q (.ref p) (upd H p o)
theorem w_new {n : Nat} {o : HO} (hn : n ≤ 1000000) (q : ∀ p H', H p = none → Same H H' → H' p = some o → Q (.ref p) H') : NewO Q H n o :=
  ⟨by rw [sizeLine_eq]; omega, fun p hp => q p _ hp (Same.new hp) upd_same⟩
theorem w_tupN {ta : TA} (q : ta σ H fun xs H1 => NewO Q H1 xs.length (.tup xs)) : tTup ta σ H Q := q
theorem w_lstN {ta : TA} (q : ta σ H fun xs H1 => NewO Q H1 xs.length (.lst xs)) : tLst ta σ H Q := q
theorem w_listN {p : Addr} {ys : List V} {b : Bool} (h : Sq b K H p ys) (q : ∀ l H', H l = none → Same H H' → H' l = some (.lst ys) → Q (.ref l) H') : rListS K [.ref p] H Q := w_listS h fun l hl => q l _ hl (Same.new hl) upd_same
theorem w_tupNL {p : Addr} {ys : List V} (h : Sq true K H p ys) (q : ∀ l H', H l = none → Same H H' → H' l = some (.tup ys) → Q (.ref l) H') : rTupS K [.ref p] H Q := w_tupL h fun l hl => q l _ hl (Same.new hl) upd_same
/-- what is let out: an error with this field -/
def RaiseQ (E : XK) (H : Hp) (C : Addr) (f : Str) (v : V) : Prop := ∀ d H', H d = none → Same H H' → H' d = some (.xd [(f, v)]) → E (.ref C) (some d) H'
theorem w_iff {A B C : Prop} {b : Bool} (h : b = true ↔ C) (h1 : C → A) (h2 : ¬ C → B) : if b = true then A else B := by
  cases b with
  | true => exact h1 (h.mp rfl)
  | false => exact h2 fun c => nomatch h.mpr c
/-- all old objects but those at a and b stand -/
def Fr2 (a b : Addr) (H H' : Hp) : Prop := ∀ c o, c ≠ a → c ≠ b → H c = some o → H' c = some o
theorem Fr2.refl (a b : Addr) (H : Hp) : Fr2 a b H H := fun _ _ _ _ e => e
theorem Fr2.trans {a b : Addr} {H H' H'' : Hp} (f : Fr2 a b H H') (g : Fr2 a b H' H'') : Fr2 a b H H'' := fun c o h1 h2 e => g c o h1 h2 (f c o h1 h2 e)
theorem Fr2.same {a b : Addr} {H H' : Hp} (s : Same H H') : Fr2 a b H H' := fun c o _ _ e => s c o e
theorem Fr2.left {a b : Addr} {H H' : Hp} (f : Fr a H H') : Fr2 a b H H' := fun c o h _ e => f c o h e
theorem Fr2.right {a b : Addr} {H H' : Hp} (f : Fr b H H') : Fr2 a b H H' := fun c o _ h e => f c o h e
theorem Fr2.mut {a b p : Addr} {H H' : Hp} {o : HO} (f : Fr2 a b H H') (hp : H p = none) : Fr2 a b H (upd H' p o) := fun c u h1 h2 e =>
  (upd_ne (fun z => by rw [z, hp] at e; cases e)).trans (f c u h1 h2 e)
theorem Fr2.hide {a b : Addr} {H H' : Hp} (f : Fr2 a b H H') : Same (hide a (hide b H)) H' := fun c o e => by
  by_cases h1 : c = a
  · rw [h1, hide_at] at e; cases e
  · rw [hide_ne h1] at e
    by_cases h2 : c = b
    · rw [h2, hide_at] at e; cases e
    · rw [hide_ne h2] at e
      exact f c o h1 h2 e
theorem NTup.hide {a b : Addr} {H : Hp} (h : NTup (H a)) : NTup (L2.hide b H a) := by
  by_cases e : a = b
  · rw [e, hide_at]; trivial
  · rw [hide_ne e]; exact h
theorem Fr2.rep {α : Type} {R : Rep α} (hm : RMono R) (ht : RTup R) {a b : Addr} {H H' : Hp} {v : V} {x : α} (f : Fr2 a b H H') (ha : NTup (H a)) (hb : NTup (H b)) (h : R H v x) : R H' v x :=
  hm _ _ _ _ f.hide (ht _ _ _ _ (NTup.hide ha) (ht _ _ _ _ hb h))
theorem Fr2.sqT {a b p : Addr} {H H' : Hp} {xs : List V} (f : Fr2 a b H H') (ha : NTup (H a)) (hb : NTup (H b)) (h : Sq false K H p xs) : Sq false K H' p xs := by
  obtain ⟨_, e, h⟩ := f.rep (R := RRw false K) RRw.mono RRw.tup ha hb ⟨p, rfl, h⟩
  cases e
  exact h
end
end L2

namespace L2
open PySem PySem.Spec PyProof.Rows
section
variable {K : PySem.W.Frag} {σ : St} {H : Hp} {te : TE} {vs : List Nat} {Q : VK}
/-- a comprehension over a range that gives new lists -/
theorem c_freshR {n : Int} {j : Nat} (rows : List (List V)) (h1 : -(2 ^ 62) ≤ n) (h2 : n < 16000000) (hl : rows.length = n.toNat) (hw : ∀ x : V, wipe ((wipe σ vs).set j (some x)) vs = wipe σ vs)
    (hs : ∀ (i : Nat) r H1 (N : VK), (i : Int) < n → rows[i]? = some r → Same H H1 → (∀ p H2, H1 p = none → Same H1 H2 → H2 p = some (.lst r) → N (.ref p) H2) → te ((wipe σ vs).set j (some (.int (i : Int)))) H1 N)
    (k : ∀ D H', Same H H' → FRows H H' D rows → Q (.ref D) H') :
    ∃ j' : Int, [V.int n] = [.int j'] ∧ -(2 ^ 62) ≤ j' ∧ j' < 2 ^ 62 ∧ CompOk (Itr 0 j'.toNat) (gName j) tYes te vs σ H Q := by
  refine l_compGR h1 h2 (fun D i acc H' => Same H H' ∧ FRows H H' D (rows.take i)) hw (fun D hD => ⟨Same.new hD, FRows.nil hD⟩) (fun i H1 D acc NT NF hi hD st e1 hal hT hF => ?_) (fun D H' ys hD st e hly => ?_)
  · obtain ⟨s1, f1⟩ := st
    have hri : rows[i]? = some (rows[i]'(by omega)) := List.getElem?_eq_getElem (by omega)
    show te _ H1 NT
    refine hs i _ H1 NT hi hri s1 fun p H2 hp s2 ep => ?_
    obtain ⟨e2, f2⟩ := f1.next s1 e1 hp s2 ep
    refine hT _ H2 e2 ⟨Same.mut (s1.trans s2) hD, ?_⟩
    rw [List.take_add_one, hri]
    exact f2
  · rw [← hl, List.take_length] at st
    exact k D H' st.1 st.2
end
end L2

namespace My
open PySem PySem.Spec PyProof.Rows L2
/-! ### sums of the first ones -/
def pre (ns : List Int) (j : Nat) : Int := (ns.take j).sum
theorem pre_zero (ns : List Int) : pre ns 0 = 0 := by simp [pre]
theorem pre_all (ns : List Int) : pre ns ns.length = ns.sum := by simp [pre]
theorem pre_succ {ns : List Int} {j : Nat} (h : j < ns.length) : pre ns (j + 1) = pre ns j + nth ns (j : Nat) := by
  have e : ns[j]? = some (nth ns (j : Nat)) := by
    rw [nth_nat, List.getD_eq_getElem?_getD, List.getElem?_eq_getElem h]
    rfl
  exact sum_take e
theorem pre_le {ns : List Int} (hn : ∀ x ∈ ns, (0 : Int) ≤ x) {i j : Nat} (h : i ≤ j) (hj : j ≤ ns.length) : pre ns i ≤ pre ns j := by
  induction j with
  | zero =>
    have : i = 0 := by omega
    subst this
    exact Int.le_refl _
  | succ j ih =>
    by_cases e : i = j + 1
    · subst e; exact Int.le_refl _
    · have h1 := ih (by omega) (by omega)
      have h2 := pre_succ (ns := ns) (j := j) (by omega)
      have h3 := hn _ (nth_mem (ns := ns) (i := (j : Nat)) (by omega) (by omega))
      omega

/-! ### nets in plain lists -/
def dot (us vs : List Int) : Int := (List.zipWith (· * ·) us vs).sum
def vtimes (p : Int) (M : List (List Int)) (v : List Int) : List Int := M.map fun r => dot r v % p
def vplus (p : Int) (u v : List Int) : List Int := List.zipWith (fun a b => (a + b) % p) u v
def looked (p : Int) (q : List Int) (prs : List (List Int × List Int)) (f : List Int) : List Int := prs.foldl (fun f kv => vplus p f (kv.2.map fun n => dot q kv.1 * n)) f
def zeros (q : List Int) : List Int := q.map fun _ => 0
abbrev Mat := List (List Int)
abbrev PairD := List Int × List Int
abbrev RowD := List PairD × List Int
structure NetD where
  p : Int
  emb : Mat
  sh : List Int
  lay : List (List Mat)
  out : Mat
def mt (L : List Mat) (i : Nat) : Mat := L.getD i []
def pairOf (p : Int) (L : List Mat) (x : List Int) : PairD := (vtimes p (mt L 1) x, vtimes p (mt L 2) x)
def midOf (p : Int) (L : List Mat) (prs : List PairD) (x : List Int) : List Int := vplus p x (looked p (vtimes p (mt L 0) x) (prs ++ [pairOf p L x]) (zeros (vtimes p (mt L 0) x)))
def sqOf (p : Int) (L : List Mat) (x : List Int) : List Int := (vtimes p (mt L 3) x).map fun a => a * a
def nextOf (p : Int) (L : List Mat) (prs : List PairD) (x : List Int) : List Int := vplus p (midOf p L prs x) (vtimes p (mt L 4) (sqOf p L (midOf p L prs x)))
def prsAt (rows : List RowD) (i : Nat) : List PairD := rows.map fun r => r.1.getD i ([], [])
def rowSt (nd : NetD) (rows : List RowD) (x0 : List Int) : Nat → List PairD × List Int
  | 0 => ([], x0)
  | i + 1 => ((rowSt nd rows x0 i).1 ++ [pairOf nd.p (nd.lay.getD i []) (rowSt nd rows x0 i).2], nextOf nd.p (nd.lay.getD i []) (prsAt rows i) (rowSt nd rows x0 i).2)
def startX (nd : NetD) (rows : List RowD) (l : Nat) : List Int := vplus nd.p (nd.emb.getD l []) (nd.sh.map fun n => (rows.length : Int) * n)
def lastSt (nd : NetD) (rows : List RowD) (l : Nat) : List PairD × List Int := rowSt nd rows (startX nd rows l) nd.lay.length
def rowD (nd : NetD) (rows : List RowD) (l : Nat) : RowD := ((lastSt nd rows l).1, nd.out.map fun v => 1 + dot v (lastSt nd rows l).2 % nd.p)
def rowsD (nd : NetD) : List Nat → List RowD → List RowD
  | [], acc => acc
  | l :: r, acc => rowsD nd r (acc ++ [rowD nd acc l])

/-- numbers from 0 to p - 1 -/
def Sml (p : Int) (ns : List Int) : Prop := ∀ x ∈ ns, 0 ≤ x ∧ x < p
/-- so small that products are reckoned -/
def Bd (ns : List Int) : Prop := ∀ x ∈ ns, -(2 ^ 64) < x ∧ x < 2 ^ 64
theorem Sml.bd {p : Int} {ns : List Int} (hp : p ≤ 97) (h : Sml p ns) : Bd ns := fun x hx => by have := h x hx; omega
def MatOk (p : Int) (w : Nat) (M : Mat) : Prop := ∀ r ∈ M, r.length = w ∧ Sml p r
structure NetOk (nd : NetD) (w : Nat) : Prop where
  p2 : 2 ≤ nd.p
  p97 : nd.p ≤ 97
  w4 : w ≤ 4
  emb : MatOk nd.p w nd.emb
  sh : nd.sh.length = w ∧ Sml nd.p nd.sh
  lay : ∀ L ∈ nd.lay, L.length = 5 ∧ ∀ M ∈ L, M.length = w ∧ MatOk nd.p w M
  out : MatOk nd.p w nd.out
  e12 : nd.emb.length ≤ 12
  o12 : nd.out.length ≤ 12
  l3 : nd.lay.length ≤ 3
def PairOk (p : Int) (w : Nat) (q : PairD) : Prop := (q.1.length = w ∧ Sml p q.1) ∧ q.2.length = w ∧ Sml p q.2
def RowOk (nd : NetD) (w : Nat) (r : RowD) : Prop := r.1.length = nd.lay.length ∧ (∀ q ∈ r.1, PairOk nd.p w q) ∧ r.2.length = nd.out.length
theorem vtimes_len (p : Int) (M : Mat) (v : List Int) : (vtimes p M v).length = M.length := List.length_map ..
theorem vplus_len {p : Int} {u v : List Int} (h : u.length = v.length) : (vplus p u v).length = u.length := by
  unfold vplus; rw [List.length_zipWith, h, Nat.min_self]
theorem vtimes_sml {p : Int} (hp : 0 < p) (M : Mat) (v : List Int) : Sml p (vtimes p M v) := fun x hx => by
  obtain ⟨r, _, e⟩ := List.mem_map.mp hx
  subst e
  exact ⟨Int.emod_nonneg _ (by omega), Int.emod_lt_of_pos _ hp⟩
theorem vplus_sml {p : Int} (hp : 0 < p) : ∀ (u v : List Int), Sml p (vplus p u v)
  | [], _ => fun x hx => by simp [vplus] at hx
  | _ :: _, [] => fun x hx => by simp [vplus] at hx
  | a :: u, b :: v => fun x hx => by
    have hx : x ∈ ((a + b) % p) :: vplus p u v := hx
    rcases List.mem_cons.mp hx with e | e
    · subst e; exact ⟨Int.emod_nonneg _ (by omega), Int.emod_lt_of_pos _ hp⟩
    · exact vplus_sml hp u v x e
theorem looked_len {p : Int} {q : List Int} : ∀ {prs : List PairD} {f : List Int}, (∀ kv ∈ prs, kv.2.length = f.length) → (looked p q prs f).length = f.length
  | [], f, _ => rfl
  | kv :: r, f, h => by
    have h1 := h kv (List.mem_cons_self ..)
    have e : (vplus p f (kv.2.map fun n => dot q kv.1 * n)).length = f.length := vplus_len (by rw [List.length_map, h1])
    show (looked p q r (vplus p f (kv.2.map fun n => dot q kv.1 * n))).length = f.length
    rw [looked_len (fun kv' hk => by rw [e]; exact h kv' (List.mem_cons_of_mem _ hk)), e]
theorem zeros_len (q : List Int) : (zeros q).length = q.length := List.length_map ..
theorem nth_zip {f : Int → Int → Int} {u v : List Int} {i : Nat} (h1 : i < u.length) (h2 : i < v.length) : nth (List.zipWith f u v) (i : Nat) = f (nth u (i : Nat)) (nth v (i : Nat)) := by
  simp only [nth_nat, List.getD_eq_getElem?_getD, List.getElem?_zipWith, List.getElem?_eq_getElem h1, List.getElem?_eq_getElem h2, Option.getD_some]
theorem nth_map {f : Int → Int} {u : List Int} {i : Nat} (h1 : i < u.length) : nth (u.map f) (i : Nat) = f (nth u (i : Nat)) := by
  simp only [nth_nat, List.getD_eq_getElem?_getD, List.getElem?_map, List.getElem?_eq_getElem h1, Option.map_some, Option.getD_some]
theorem nth_mapG {α : Type} {f : α → Int} {u : List α} {i : Nat} {x : α} (h1 : u[i]? = some x) : nth (u.map f) (i : Nat) = f x := by
  simp only [nth_nat, List.getD_eq_getElem?_getD, List.getElem?_map, h1, Option.map_some, Option.getD_some]
theorem nth_range {f : Nat → Int} {n i : Nat} (h1 : i < n) : nth ((List.range n).map f) (i : Nat) = f i := by
  simp only [nth_nat, List.getD_eq_getElem?_getD, List.getElem?_map, List.getElem?_range h1, Option.map_some, Option.getD_some]
theorem nth_ext {u v : List Int} (hl : u.length = v.length) (h : ∀ i : Nat, i < u.length → nth u (i : Nat) = nth v (i : Nat)) : u = v := by
  refine List.ext_getElem hl fun i h1 h2 => ?_
  have := h i h1
  simpa only [nth_nat, List.getD_eq_getElem?_getD, List.getElem?_eq_getElem h1, List.getElem?_eq_getElem h2, Option.getD_some] using this
theorem pairOf_ok {p : Int} {w : Nat} {L : List Mat} {x : List Int} (hp : 0 < p) (hL : L.length = 5 ∧ ∀ M ∈ L, M.length = w ∧ MatOk p w M) : PairOk p w (pairOf p L x) := by
  have hm : ∀ i : Nat, i < 5 → (mt L i).length = w := fun i hi => by
    unfold mt
    rw [List.getD_eq_getElem?_getD, List.getElem?_eq_getElem (by omega)]
    exact (hL.2 _ (List.getElem_mem _)).1
  exact ⟨⟨by show (vtimes p (mt L 1) x).length = w; rw [vtimes_len]; exact hm 1 (by omega), vtimes_sml hp _ _⟩, by show (vtimes p (mt L 2) x).length = w; rw [vtimes_len]; exact hm 2 (by omega), vtimes_sml hp _ _⟩
theorem mt_ok {p : Int} {w : Nat} {L : List Mat} (hL : L.length = 5 ∧ ∀ M ∈ L, M.length = w ∧ MatOk p w M) {i : Nat} (hi : i < 5) : L[i]? = some (mt L i) ∧ (mt L i).length = w ∧ MatOk p w (mt L i) := by
  have e : L[i]? = some (mt L i) := by
    unfold mt
    rw [List.getD_eq_getElem?_getD, List.getElem?_eq_getElem (by omega)]
    rfl
  exact ⟨e, hL.2 _ (List.mem_of_getElem? e)⟩
theorem midOf_len {p : Int} {w : Nat} {L : List Mat} {prs : List PairD} {x : List Int} (hp : 0 < p) (hL : L.length = 5 ∧ ∀ M ∈ L, M.length = w ∧ MatOk p w M) (hprs : ∀ q ∈ prs, PairOk p w q) (hx : x.length = w) : (midOf p L prs x).length = w := by
  have h0 := (mt_ok hL (i := 0) (by omega)).2.1
  have hq : (looked p (vtimes p (mt L 0) x) (prs ++ [pairOf p L x]) (zeros (vtimes p (mt L 0) x))).length = w := by
    rw [looked_len, zeros_len, vtimes_len, h0]
    intro kv hk
    rw [zeros_len, vtimes_len, h0]
    rcases List.mem_append.mp hk with h | h
    · exact (hprs kv h).2.1
    · rw [List.mem_singleton.mp h]; exact (pairOf_ok hp hL).2.1
  unfold midOf
  rw [vplus_len (by rw [hx, hq]), hx]
theorem nextOf_len {p : Int} {w : Nat} {L : List Mat} {prs : List PairD} {x : List Int} (hp : 0 < p) (hL : L.length = 5 ∧ ∀ M ∈ L, M.length = w ∧ MatOk p w M) (hprs : ∀ q ∈ prs, PairOk p w q) (hx : x.length = w) : (nextOf p L prs x).length = w := by
  have hm := midOf_len hp hL hprs hx
  unfold nextOf
  rw [vplus_len (by rw [hm, vtimes_len, (mt_ok hL (i := 4) (by omega)).2.1]), hm]
theorem nextOf_sml {p : Int} {L : List Mat} {prs : List PairD} {x : List Int} (hp : 0 < p) : Sml p (nextOf p L prs x) := vplus_sml hp _ _
theorem prsAt_ok {nd : NetD} {w : Nat} {rows : List RowD} (hr : ∀ r ∈ rows, RowOk nd w r) {i : Nat} (hi : i < nd.lay.length) : ∀ q ∈ prsAt rows i, PairOk nd.p w q := fun q hq => by
  obtain ⟨r, hr1, e⟩ := List.mem_map.mp hq
  obtain ⟨h1, h2, _⟩ := hr r hr1
  rw [List.getD_eq_getElem?_getD, List.getElem?_eq_getElem (by omega)] at e
  subst e
  exact h2 _ (List.getElem_mem _)
theorem rowSt_ok {nd : NetD} {w : Nat} (ok : NetOk nd w) {rows : List RowD} (hr : ∀ r ∈ rows, RowOk nd w r) {x0 : List Int} (h0 : x0.length = w ∧ Sml nd.p x0) : ∀ i, i ≤ nd.lay.length →
    (rowSt nd rows x0 i).1.length = i ∧ (∀ q ∈ (rowSt nd rows x0 i).1, PairOk nd.p w q) ∧ (rowSt nd rows x0 i).2.length = w ∧ Sml nd.p (rowSt nd rows x0 i).2
  | 0, _ => ⟨rfl, List.forall_mem_nil _, h0.1, h0.2⟩
  | i + 1, hi => by
    obtain ⟨h1, h2, h3, h4⟩ := rowSt_ok ok hr h0 i (by omega)
    have hp : 0 < nd.p := by have := ok.p2; omega
    have hL := ok.lay (nd.lay.getD i []) (by
      rw [List.getD_eq_getElem?_getD, List.getElem?_eq_getElem (by omega)]
      exact List.getElem_mem _)
    refine ⟨by show (_ ++ [_]).length = _; rw [List.length_append, h1]; rfl, fun q hq => ?_, nextOf_len hp hL (prsAt_ok hr (by omega)) h3, nextOf_sml hp⟩
    rcases List.mem_append.mp hq with h | h
    · exact h2 q h
    · rw [List.mem_singleton.mp h]; exact pairOf_ok hp hL
theorem startX_ok {nd : NetD} {w : Nat} (ok : NetOk nd w) {rows : List RowD} {l : Nat} (hl : l < nd.emb.length) : (startX nd rows l).length = w ∧ Sml nd.p (startX nd rows l) := by
  have he : (nd.emb.getD l []).length = w := by
    rw [List.getD_eq_getElem?_getD, List.getElem?_eq_getElem hl]
    exact (ok.emb _ (List.getElem_mem _)).1
  refine ⟨?_, vplus_sml (by have := ok.p2; omega) _ _⟩
  unfold startX
  rw [vplus_len (by rw [he, List.length_map, ok.sh.1]), he]
theorem rowD_ok {nd : NetD} {w : Nat} (ok : NetOk nd w) {rows : List RowD} (hr : ∀ r ∈ rows, RowOk nd w r) {l : Nat} (hl : l < nd.emb.length) : RowOk nd w (rowD nd rows l) := by
  obtain ⟨h1, h2, _, _⟩ := rowSt_ok ok hr (startX_ok ok (rows := rows) hl) nd.lay.length (Nat.le_refl _)
  exact ⟨h1, h2, List.length_map ..⟩

/-! ### the same, as the law reckons it -/
def ldot (p : Int) (a b : List Int) : Int := ((List.range a.length).map fun k => nth a (k : Nat) * nth b (k : Nat)).sum % p
theorem dot_range {a b : List Int} (h : a.length = b.length) : ((List.range a.length).map fun k => nth a ((k : Nat) : Int) * nth b ((k : Nat) : Int)) = List.zipWith (· * ·) a b := by
  refine nth_ext (by rw [List.length_map, List.length_range, List.length_zipWith, h, Nat.min_self]) fun i hi => ?_
  rw [List.length_map, List.length_range] at hi
  rw [nth_range hi, nth_zip hi (by omega)]
theorem ldot_eq {p : Int} {a b : List Int} (h : a.length = b.length) : ldot p a b = dot a b % p := by
  unfold ldot dot
  rw [dot_range h]
def lstep (p : Int) (asked : List Int) (x : List Int) (o : PairD) : List Int := (List.range x.length).map fun k => (nth x (k : Nat) + ldot p asked o.1 * nth o.2 (k : Nat)) % p
theorem lstep_eq {p : Int} {asked x f : List Int} {o : PairD} (hx : x.length = f.length) (ho : o.2.length = f.length) (ha : asked.length = o.1.length) : lstep p asked (vplus p x f) o = vplus p x (vplus p f (o.2.map fun n => dot asked o.1 * n)) := by
  have h1 : (vplus p x f).length = f.length := by rw [vplus_len hx, hx]
  have h2 : (vplus p f (o.2.map fun n => dot asked o.1 * n)).length = f.length := vplus_len (by rw [List.length_map, ho])
  refine nth_ext (by unfold lstep; rw [List.length_map, List.length_range, h1, vplus_len (by rw [h2, hx]), hx]) fun i hi => ?_
  unfold lstep at hi ⊢
  rw [List.length_map, List.length_range, h1] at hi
  rw [nth_range (by rw [h1]; exact hi), ldot_eq ha]
  unfold vplus at h2 ⊢
  rw [nth_zip (by omega) hi, nth_zip (by omega) (by omega), nth_zip hi (by rw [List.length_map]; omega), nth_map (by omega)]
  generalize nth x (i : Nat) = a
  generalize nth f (i : Nat) = b
  generalize nth o.2 (i : Nat) = c
  generalize dot asked o.1 = d
  rw [Int.emod_add_emod, Int.add_emod_emod, ← Int.add_assoc, Int.add_emod (a + b) (d % p * c), Int.add_emod (a + b) (d * c), show d % p * c % p = d * c % p by rw [Int.mul_emod (d % p) c, Int.emod_emod, ← Int.mul_emod]]
theorem latt_eq {p : Int} {asked x : List Int} : ∀ {prs : List PairD} {f : List Int}, x.length = f.length → (∀ o ∈ prs, o.2.length = f.length ∧ asked.length = o.1.length) → prs.foldl (lstep p asked) (vplus p x f) = vplus p x (looked p asked prs f)
  | [], f, _, _ => rfl
  | o :: r, f, hx, h => by
    obtain ⟨h1, h2⟩ := h o (List.mem_cons_self ..)
    have e : (vplus p f (o.2.map fun n => dot asked o.1 * n)).length = f.length := vplus_len (by rw [List.length_map, h1])
    show r.foldl (lstep p asked) (lstep p asked (vplus p x f) o) = vplus p x (looked p asked r (vplus p f (o.2.map fun n => dot asked o.1 * n)))
    rw [lstep_eq hx h1 h2]
    exact latt_eq (by rw [e]; exact hx) fun o' ho => by rw [e]; exact h o' (List.mem_cons_of_mem _ ho)
theorem vplus_zero {p : Int} {x z : List Int} (hx : Sml p x) (hz : z.length = x.length) (h0 : ∀ i : Nat, i < z.length → nth z (i : Nat) = 0) : vplus p x z = x := by
  refine nth_ext (vplus_len hz.symm) fun i hi => ?_
  rw [vplus_len hz.symm] at hi
  unfold vplus
  rw [nth_zip hi (by omega), h0 i (by omega), Int.add_zero]
  have := hx _ (nth_mem (ns := x) (i := ((i : Nat) : Int)) (by omega) (by omega))
  exact Int.emod_eq_of_lt this.1 this.2
theorem mid_law {p : Int} {w : Nat} {L : List Mat} {prs : List PairD} {x : List Int} (hp : 0 < p) (hL : L.length = 5 ∧ ∀ M ∈ L, M.length = w ∧ MatOk p w M) (hprs : ∀ q ∈ prs, PairOk p w q) (hx : x.length = w ∧ Sml p x) :
    (prs ++ [pairOf p L x]).foldl (lstep p (vtimes p (mt L 0) x)) x = midOf p L prs x := by
  have h0 := (mt_ok hL (i := 0) (by omega)).2.1
  have hz : (zeros (vtimes p (mt L 0) x)).length = x.length := by rw [zeros_len, vtimes_len, h0, hx.1]
  have e0 : vplus p x (zeros (vtimes p (mt L 0) x)) = x := vplus_zero hx.2 hz fun i hi => by
    unfold zeros at hi ⊢
    rw [nth_map (by rw [List.length_map] at hi; exact hi)]
  have key := latt_eq (p := p) (asked := vtimes p (mt L 0) x) (x := x) (prs := prs ++ [pairOf p L x]) (f := zeros (vtimes p (mt L 0) x)) hz.symm fun o ho => by
    rw [hz, hx.1, vtimes_len, h0]
    rcases List.mem_append.mp ho with h | h
    · exact ⟨(hprs o h).2.1, (hprs o h).1.1.symm⟩
    · rw [List.mem_singleton.mp h]; exact ⟨(pairOf_ok hp hL).2.1, (pairOf_ok hp hL).1.1.symm⟩
  rw [e0] at key
  exact key
theorem vplus_range {p : Int} {u v : List Int} (h : u.length = v.length) : ((List.range u.length).map fun k => (nth u ((k : Nat) : Int) + nth v ((k : Nat) : Int)) % p) = vplus p u v := by
  refine nth_ext (by rw [List.length_map, List.length_range, vplus_len h]) fun i hi => ?_
  rw [List.length_map, List.length_range] at hi
  rw [nth_range hi]
  unfold vplus
  rw [nth_zip hi (by omega)]

/-! ### one step of a reading; the closers -/
local macro_rules | `(tactic| walk_at "same") => `(tactic| first
  | assumption
  | exact Same.refl _
  | (refine Same.trans ?_ (Same.new (by assumption)); walk_at "same")
  | (refine Same.mut ?_ (by assumption); walk_at "same")
  | (refine Same.trans (H1 := _) ?_ (by assumption); walk_at "same"))
local macro_rules | `(tactic| walk_at "at") => `(tactic| first
  | assumption
  | exact upd_same
  | (refine Same.at ?_ (by assumption); walk_at "same"))
local macro_rules | `(tactic| walk_at "sq") => `(tactic| first
  | assumption
  | exact Sq.lst (by walk_at "at")
  | exact Sq.tup (by walk_at "at")
  | (refine Same.sq ?_ (by assumption); walk_at "same"))
local macro_rules | `(tactic| walk_at "lk") => `(tactic| first
  | exact lk_here
  | (refine lk_next (by decide +kernel) ?_; walk_at "lk")
  | exact rfl)
local macro_rules | `(tactic| walk_at "pf") => `(tactic| first
  | exact pf_here
  | (apply pf_next (by decide +kernel); walk_at "pf")
  | exact pf_nil)
local macro_rules | `(tactic| walk_at "num") => `(tactic| first
  | omega
  | assumption
  | (unfold CMul; omega)
  | (unfold CDiv; omega)
  | (unfold CPow; refine ⟨?_, ?_, ?_⟩ <;> first | omega | decide)
  | decide
  | (simp only [List.length_append, List.length_cons, List.length_nil, List.length_map, List.length_range] at *; omega))
local macro_rules | `(tactic| walk_at "vv") => `(tactic| first
  | exact tape_cells
  | exact tape_at
  | exact tape_great
  | exact tape_left
  | exact tape_seed
  | exact tape_turn
  | exact val_pos
  | (refine (val_neg (by decide +kernel)).trans ?_; walk_at "vv"))
local macro_rules | `(tactic| walk_at "pp") => `(tactic| first
  | exact tape_setAt
  | exact tape_setGreat
  | exact tape_setLeft
  | exact tape_setSeed
  | exact tape_setTurn)
local macro_rules | `(tactic| walk_at "dl") => `(tactic| first
  | exact tape_len
  | (show _ < 1000; simp only [List.length_cons, List.length_nil]; omega))
local macro_rules | `(tactic| walk_at "go1") => `(tactic| first
  | with_reducible refine w_var rfl ?_
  | with_reducible refine w_seq ?_
  | with_reducible refine w_asg ?_
  | with_reducible refine w_gName ?_
  | with_reducible refine w_c ?_
  | with_reducible refine w_op ?_
  | with_reducible refine w_I0 ?_
  | with_reducible refine w_addI ?_
  | with_reducible refine w_cb ?_
  | with_reducible refine w_aCons ?_
  | with_reducible refine w_aNil ?_
  | with_reducible refine w_int1 ?_
  | with_reducible refine w_int1b ?_
  | ((with_reducible refine w_I ?_ ?_); (· walk_at "num"))
  | with_reducible refine w_test ?_
  | with_reducible refine w_exb ?_
  | with_reducible refine w_exi ?_
  | with_reducible refine w_ifS ?_
  | with_reducible refine w_tru ?_
  | with_reducible refine w_truB ?_
  | with_reducible refine w_eqI ?_
  | with_reducible refine w_neI ?_
  | with_reducible refine iteT ?_
  | with_reducible refine iteF ?_
  | with_reducible refine w_not ?_
  | with_reducible refine w_and ?_
  | with_reducible refine w_or ?_
  | with_reducible refine w_iteNT ?_
  | with_reducible refine w_iteNF ?_
  | with_reducible refine w_ret ?_
  | with_reducible refine w_retN ?_
  | with_reducible refine w_next ?_
  | with_reducible refine w_drop ?_
  | with_reducible refine w_augI rfl ?_
  | with_reducible refine w_ipI ?_
  | with_reducible refine w_un ?_
  | with_reducible refine w_rU ?_
  | with_reducible refine w_abs ?_
  | with_reducible refine w_max2 ?_
  | with_reducible refine w_min2 ?_
  | with_reducible refine w_call ?_
  | with_reducible refine w_tB ?_
  | with_reducible refine w_bm ?_
  | ((with_reducible show tyV _ "list" (V.ref _) _ ∧ _); refine w_tyL (by walk_at "sq") ?_)
  | ((with_reducible show rIx _ (V.ref _) (V.int _) _ _); refine w_ixI (by walk_at "sq") (by walk_at "num") (by walk_at "num") ?_)
  | ((with_reducible show rSumS _ [V.ref _] _ _); refine w_sumI (by walk_at "sq") ?_)
  | ((with_reducible show rLenS _ [V.ref _] _ _); refine w_lenI (by walk_at "sq") ?_)
  | ((with_reducible show rLenS _ [V.ref _] _ _); refine w_lenS (by walk_at "sq") ?_)
  | with_reducible refine w_isNn ?_
  | with_reducible refine w_isNi ?_
  | with_reducible refine w_isNb ?_
  | with_reducible refine w_isNs ?_
  | with_reducible refine w_isNr ?_
  | with_reducible refine w_notNn ?_
  | with_reducible refine w_notNi ?_
  | with_reducible refine w_notNb ?_
  | with_reducible refine w_notNs ?_
  | with_reducible refine w_notNr ?_
  | with_reducible refine w_lstD ?_
  | with_reducible refine w_tupD ?_
  | with_reducible refine w_sl ?_
  | with_reducible refine w_noPart ?_
  | with_reducible refine w_part ?_
  | with_reducible refine w_for ?_
  | with_reducible refine w_iRng1 ?_
  | with_reducible refine w_iRng2 ?_
  | with_reducible refine w_iSeq ?_
  | with_reducible refine w_iEnumS ?_
  | with_reducible refine w_andV ?_
  | with_reducible refine w_orV ?_
  | with_reducible refine w_notV ?_
  | with_reducible refine w_ifE ?_
  | with_reducible refine w_brk ?_
  | with_reducible refine w_cont ?_
  | with_reducible refine w_gSub ?_
  | with_reducible refine w_lc ?_
  | with_reducible refine w_iZipS ?_
  | with_reducible refine w_fld ?_
  | ((with_reducible show ∃ a C dx fs v, V.ref _ = V.ref a ∧ _ ∧ Cls _ _ ∧ NoAttr _ _ _ ∧ _ ∧ _); refine w_fldAt (by walk_at "at") (by assumption) (by assumption) (by walk_at "lk") ?_)
  | with_reducible refine w_sfld ?_
  | ((with_reducible show ∃ a C dx fs, V.ref _ = V.ref a ∧ _ ∧ Cls _ _ ∧ NoAttr _ _ _ ∧ _ ∧ _); refine w_sfldAt (by walk_at "at") (by assumption) (by assumption) (by show _ < 1000; simp only [List.length_cons, List.length_nil]; omega) (by walk_at "pf") ?_)
  | with_reducible refine w_meth ?_
  | ((with_reducible show ∃ a dx fs, V.ref _ = V.ref a ∧ _ ∧ _ ∧ _); refine w_methAt (by walk_at "at") (by walk_at "lk") ?_)
  | with_reducible refine w_make ?_
  | with_reducible refine w_chain ?_
  | with_reducible refine w_dget ?_
  | ((with_reducible show ∃ a v, V.ref _ = V.ref a ∧ DGet _ a (V.str _) (some v) ∧ _); refine w_dgetAt (by walk_at "at") (by walk_at "vv") ?_)
  | ((with_reducible show ∃ a H4, V.ref _ = V.ref a ∧ DPut _ a (V.str _) _ H4 ∧ _); refine w_dputAt (by walk_at "at") (by walk_at "dl") (by walk_at "pp") ?_)
  | with_reducible refine w_dput ?_
  | with_reducible refine w_disp ?_
  | with_reducible refine w_prop ?_
  | ((with_reducible show ∃ a dx fs, V.ref _ = V.ref a ∧ _ ∧ _); refine w_propAt (by walk_at "at") ?_)
  | with_reducible refine w_lstRg ?_
  | with_reducible refine w_tupRg ?_
  | with_reducible refine w_rg1 ?_
  | with_reducible refine w_rg2 ?_
  | with_reducible refine w_augS ?_
  | ((with_reducible show rGetL (V.ref _) (V.int _) _ _); refine w_getI (by walk_at "at") (by walk_at "num") (by walk_at "num") ?_)
  | with_reducible refine w_pair0 ?_
  | with_reducible refine w_pair1 ?_
  | ((with_reducible show Ends.rt _ _ _); with_reducible refine w_rt ?_)
  | ((with_reducible show Ends.bk _ _ _); with_reducible refine w_bk ?_)
  | ((with_reducible show Ends.ct _ _ _); with_reducible refine w_ct ?_)
  | ((with_reducible show Ends.nx _ _ _); with_reducible refine w_nx ?_))
local macro_rules | `(tactic| walk_at "go") => `(tactic| repeat walk_at "go1")
/-! new objects named by themselves -/
local macro_rules | `(tactic| walk_at "same2") => `(tactic| first
  | with_reducible assumption
  | exact Same.refl _
  | (refine Same.trans (H1 := _) ?_ (by with_reducible assumption); walk_at "same2"))
local macro_rules | `(tactic| walk_at "at2") => `(tactic| first
  | with_reducible assumption
  | (refine Same.at ?_ (by with_reducible assumption); walk_at "same2"))
local macro_rules | `(tactic| walk_at "sq2") => `(tactic| first
  | with_reducible assumption
  | exact Sq.lst (by walk_at "at2")
  | exact Sq.tup (by walk_at "at2")
  | (refine Same.sq ?_ (by with_reducible assumption); walk_at "same2"))
local macro_rules | `(tactic| walk_at "ati") => `(tactic| first
  | exact atI_nat (j := 0) rfl
  | exact atI_nat (j := 1) rfl
  | exact atI_nat (j := 2) rfl
  | exact atI_nat (j := 3) rfl
  | exact atI_nat (j := 4) rfl)
local macro_rules | `(tactic| walk_at "nw1") => `(tactic| first
  | with_reducible refine w_tupN ?_
  | with_reducible refine w_lstN ?_
  | ((with_reducible show NewO _ _ _ _); refine w_new (by first | exact Nat.zero_le _ | (simp only [List.length_cons, List.length_nil]; omega)) ?_; intro p H' hp s e)
  | with_reducible refine w_methT ?_
  | with_reducible refine w_makeT ?_
  | with_reducible refine w_callS ?_
  | ((with_reducible show rIx _ (V.ref _) (V.int _) _ _); refine w_ixI (by walk_at "sq2") (by walk_at "num") (by walk_at "num") ?_)
  | ((with_reducible show rIx _ (V.ref _) (V.int _) _ _); refine w_ix (by walk_at "sq2") (by walk_at "ati") ?_)
  | ((with_reducible show rListS _ [V.ref _] _ _); refine w_listN (by walk_at "sq2") ?_; intro p H' hp s e)
  | ((with_reducible show rTupS _ [V.ref _] _ _); refine w_tupNL (by walk_at "sq2") ?_; intro p H' hp s e)
  | ((with_reducible show rTupS _ [V.ref _] _ _); refine w_tupT (by walk_at "sq2") ?_)
  | with_reducible refine w_neBB ?_
  | with_reducible refine w_neSS ?_
  | with_reducible refine w_eqSS ?_
  | ((with_reducible show rEqG _ (V.str _) (V.str _) _ _); refine w_eqSD (by decide +kernel) ?_)
  | ((with_reducible show rNeG _ (V.str _) (V.str _) _ _); refine w_neSD (by decide +kernel) ?_)
  | with_reducible refine w_augF ?_
  | ((with_reducible show ∃ a C dx fs v, V.ref _ = V.ref a ∧ _ ∧ Cls _ _ ∧ NoAttr _ _ _ ∧ _ ∧ _); refine w_augFAt (by walk_at "at") (by assumption) (by assumption) (by walk_at "lk") ?_)
  | with_reducible refine w_rAdd ?_
  | ((with_reducible show ∃ dx' fs', _ ∧ List.length fs' < 1000 ∧ _); refine w_augFEnd (by walk_at "at") (by show _ < 1000; simp only [List.length_cons, List.length_nil]; omega) (by walk_at "pf") ?_)
  | walk_at "go1")
local macro_rules | `(tactic| walk_at "GO") => `(tactic| repeat walk_at "nw1")

def topS (i : Nat) : Stmt := PySem.Challenge.pw_servedalone_k07_whole_what_the_net_write.main.body.getD i (.Pass ⟨0, 0, 0, 0⟩)
abbrev s_InvalidNumber___init__ : Stmt := inClass (topS 2) 0
abbrev s_InvalidLetter___init__ : Stmt := inClass (topS 3) 0
abbrev s_NoRoom___init__ : Stmt := inClass (topS 4) 0
abbrev s_NotHeld___init__ : Stmt := inClass (topS 5) 0
abbrev s_NotAlone___init__ : Stmt := inClass (topS 6) 0
abbrev s_NoRequest___init__ : Stmt := inClass (topS 7) 0
abbrev s_NoHouse___init__ : Stmt := inClass (topS 8) 0
abbrev s_TooLarge___init__ : Stmt := inClass (topS 9) 0
abbrev s_rows_of : Stmt := topS 11
abbrev s_check_letters : Stmt := topS 12
abbrev s_stop_length : Stmt := topS 13
abbrev s_next_text : Stmt := topS 14
abbrev s_written : Stmt := topS 15
abbrev s_is_between : Stmt := topS 18
abbrev s_vector_of : Stmt := topS 19
abbrev s_matrix_of : Stmt := topS 20
abbrev s_product_sum : Stmt := topS 21
abbrev s_Net___init__ : Stmt := inClass (topS 22) 0
abbrev s_Net_letters : Stmt := inClass (topS 22) 1
abbrev s_Net_is_letter : Stmt := inClass (topS 22) 2
abbrev s_Net_rest : Stmt := inClass (topS 22) 3
abbrev s_Net_times : Stmt := inClass (topS 22) 4
abbrev s_Net_plus : Stmt := inClass (topS 22) 5
abbrev s_Net_looked_at : Stmt := inClass (topS 22) 6
abbrev s_Net_row : Stmt := inClass (topS 22) 7
abbrev s_greatest : Stmt := topS 23
abbrev s_by_number : Stmt := topS 24
abbrev s_Ask___init__ : Stmt := inClass (topS 27) 0
abbrev s_Ask_let_weights : Stmt := inClass (topS 27) 1
abbrev s_Ask_choice : Stmt := inClass (topS 27) 2
abbrev s_Rule___init__ : Stmt := inClass (topS 29) 0
abbrev s_Rule___eq__ : Stmt := inClass (topS 29) 1
abbrev s_Rule_after : Stmt := inClass (topS 29) 2
abbrev s_Rule_lets : Stmt := inClass (topS 29) 3
abbrev s_L_numbers : Stmt := topS 31
abbrev s_L_same : Stmt := topS 32
abbrev s_L_vector : Stmt := topS 33
abbrev s_L_net : Stmt := topS 34
abbrev s_L_dot : Stmt := topS 35
abbrev s_L_times : Stmt := topS 36
abbrev s_L_row : Stmt := topS 37
abbrev s_L_rows : Stmt := topS 38
abbrev s_L_after : Stmt := topS 39
abbrev s_L_counted : Stmt := topS 40
abbrev s_L_choice : Stmt := topS 41
abbrev s_L_rule : Stmt := topS 42
abbrev s_L_stops : Stmt := topS 43
abbrev s_L_tape : Stmt := topS 44
abbrev s_L_ask : Stmt := topS 45
abbrev s_L_ends : Stmt := topS 46
abbrev s_L_stopped : Stmt := topS 47
abbrev s_L_written : Stmt := topS 48
abbrev s_L_made : Stmt := topS 49
abbrev s_L_odd : Stmt := topS 50
abbrev s_L_put : Stmt := topS 51
abbrev s_L_spoilt : Stmt := topS 52
abbrev s_L_first_bad : Stmt := topS 53
abbrev s_L_refuses : Stmt := topS 54
abbrev s_law : Stmt := topS 55
theorem sc_InvalidNumber___init__ : FnScope ["self", "number"] ["self", "number"] (defScope s_InvalidNumber___init__) := ⟨rfl, rfl, rfl, by decide +kernel, rfl, by decide +kernel, by decide +kernel⟩
theorem sc_InvalidLetter___init__ : FnScope ["self", "letter"] ["self", "letter"] (defScope s_InvalidLetter___init__) := ⟨rfl, rfl, rfl, by decide +kernel, rfl, by decide +kernel, by decide +kernel⟩
theorem sc_NoRoom___init__ : FnScope ["self", "many"] ["self", "many"] (defScope s_NoRoom___init__) := ⟨rfl, rfl, rfl, by decide +kernel, rfl, by decide +kernel, by decide +kernel⟩
theorem sc_NotHeld___init__ : FnScope ["self", "block"] ["self", "block"] (defScope s_NotHeld___init__) := ⟨rfl, rfl, rfl, by decide +kernel, rfl, by decide +kernel, by decide +kernel⟩
theorem sc_NotAlone___init__ : FnScope ["self", "block"] ["self", "block"] (defScope s_NotAlone___init__) := ⟨rfl, rfl, rfl, by decide +kernel, rfl, by decide +kernel, by decide +kernel⟩
theorem sc_NoRequest___init__ : FnScope ["self", "ticket"] ["self", "ticket"] (defScope s_NoRequest___init__) := ⟨rfl, rfl, rfl, by decide +kernel, rfl, by decide +kernel, by decide +kernel⟩
theorem sc_NoHouse___init__ : FnScope ["self", "house"] ["self", "house"] (defScope s_NoHouse___init__) := ⟨rfl, rfl, rfl, by decide +kernel, rfl, by decide +kernel, by decide +kernel⟩
theorem sc_TooLarge___init__ : FnScope ["self", "ticket"] ["self", "ticket"] (defScope s_TooLarge___init__) := ⟨rfl, rfl, rfl, by decide +kernel, rfl, by decide +kernel, by decide +kernel⟩
theorem sc_rows_of : FnScope ["net", "letters", "rows", "letter"] ["net", "letters"] (defScope s_rows_of) := ⟨rfl, rfl, rfl, by decide +kernel, rfl, by decide +kernel, by decide +kernel⟩
theorem sc_check_letters : FnScope ["net", "ask", "begun", "row", "letter"] ["net", "ask", "begun"] (defScope s_check_letters) := ⟨rfl, rfl, rfl, by decide +kernel, rfl, by decide +kernel, by decide +kernel⟩
theorem sc_stop_length : FnScope ["stops", "text", "most", "stop"] ["stops", "text"] (defScope s_stop_length) := ⟨rfl, rfl, rfl, by decide +kernel, rfl, by decide +kernel, by decide +kernel⟩
theorem sc_next_text : FnScope ["net", "ask", "text", "weights", "letter", "length"] ["net", "ask", "text", "weights"] (defScope s_next_text) := ⟨rfl, rfl, rfl, by decide +kernel, rfl, by decide +kernel, by decide +kernel⟩
theorem sc_written : FnScope ["net", "ask", "begun", "text", "rows", "word"] ["net", "ask", "begun"] (defScope s_written) := ⟨rfl, rfl, rfl, by decide +kernel, rfl, by decide +kernel, by decide +kernel⟩
theorem sc_is_between : FnScope ["value", "least", "most"] ["value", "least", "most"] (defScope s_is_between) := ⟨rfl, rfl, rfl, by decide +kernel, rfl, by decide +kernel, by decide +kernel⟩
theorem sc_vector_of : FnScope ["numbers"] ["numbers"] (defScope s_vector_of) := ⟨rfl, rfl, rfl, by decide +kernel, rfl, by decide +kernel, by decide +kernel⟩
theorem sc_matrix_of : FnScope ["rows", "row"] ["rows"] (defScope s_matrix_of) := ⟨rfl, rfl, rfl, by decide +kernel, rfl, by decide +kernel, by decide +kernel⟩
theorem sc_product_sum : FnScope ["one", "two", "total", "number", "other"] ["one", "two"] (defScope s_product_sum) := ⟨rfl, rfl, rfl, by decide +kernel, rfl, by decide +kernel, by decide +kernel⟩
theorem sc_Net___init__ : FnScope ["self", "prime", "embed", "shift", "layers", "out", "end", "layer", "matrix"] ["self", "prime", "embed", "shift", "layers", "out", "end"] (defScope s_Net___init__) := ⟨rfl, rfl, rfl, by decide +kernel, rfl, by decide +kernel, by decide +kernel⟩
theorem sc_Net_letters : FnScope ["self"] ["self"] (defScope s_Net_letters) := ⟨rfl, rfl, rfl, by decide +kernel, rfl, by decide +kernel, by decide +kernel⟩
theorem sc_Net_is_letter : FnScope ["self", "value"] ["self", "value"] (defScope s_Net_is_letter) := ⟨rfl, rfl, rfl, by decide +kernel, rfl, by decide +kernel, by decide +kernel⟩
theorem sc_Net_rest : FnScope ["self", "number"] ["self", "number"] (defScope s_Net_rest) := ⟨rfl, rfl, rfl, by decide +kernel, rfl, by decide +kernel, by decide +kernel⟩
theorem sc_Net_times : FnScope ["self", "matrix", "vector", "row"] ["self", "matrix", "vector"] (defScope s_Net_times) := ⟨rfl, rfl, rfl, by decide +kernel, rfl, by decide +kernel, by decide +kernel⟩
theorem sc_Net_plus : FnScope ["self", "one", "two", "number", "other"] ["self", "one", "two"] (defScope s_Net_plus) := ⟨rfl, rfl, rfl, by decide +kernel, rfl, by decide +kernel, by decide +kernel⟩
theorem sc_Net_looked_at : FnScope ["self", "query", "pairs", "found", "key", "value", "part", "_", "number"] ["self", "query", "pairs"] (defScope s_Net_looked_at) := ⟨rfl, rfl, rfl, by decide +kernel, rfl, by decide +kernel, by decide +kernel⟩
theorem sc_Net_row : FnScope ["self", "rows", "letter", "x", "own", "layer", "query", "key", "value", "first", "second", "pair", "pairs", "weights", "vector", "number", "row"] ["self", "rows", "letter"] (defScope s_Net_row) := ⟨rfl, rfl, rfl, by decide +kernel, rfl, by decide +kernel, by decide +kernel⟩
theorem sc_greatest : FnScope ["weights", "best", "letter", "weight"] ["weights"] (defScope s_greatest) := ⟨rfl, rfl, rfl, by decide +kernel, rfl, by decide +kernel, by decide +kernel⟩
theorem sc_by_number : FnScope ["weights", "number", "left", "letter"] ["weights", "number"] (defScope s_by_number) := ⟨rfl, rfl, rfl, by decide +kernel, rfl, by decide +kernel, by decide +kernel⟩
theorem sc_Ask___init__ : FnScope ["self", "prompt", "most", "stops", "tape", "rule", "stop"] ["self", "prompt", "most", "stops", "tape", "rule"] (defScope s_Ask___init__) := ⟨rfl, rfl, rfl, by decide +kernel, rfl, by decide +kernel, by decide +kernel⟩
theorem sc_Ask_let_weights : FnScope ["self", "weights", "text", "letter", "weight"] ["self", "weights", "text"] (defScope s_Ask_let_weights) := ⟨rfl, rfl, rfl, by decide +kernel, rfl, by decide +kernel, by decide +kernel⟩
theorem sc_Ask_choice : FnScope ["self", "weights", "text", "let"] ["self", "weights", "text"] (defScope s_Ask_choice) := ⟨rfl, rfl, rfl, by decide +kernel, rfl, by decide +kernel, by decide +kernel⟩
theorem sc_Rule___init__ : FnScope ["self", "start", "steps", "row"] ["self", "start", "steps"] (defScope s_Rule___init__) := ⟨rfl, rfl, rfl, by decide +kernel, rfl, by decide +kernel, by decide +kernel⟩
theorem sc_Rule___eq__ : FnScope ["self", "other"] ["self", "other"] (defScope s_Rule___eq__) := ⟨rfl, rfl, rfl, by decide +kernel, rfl, by decide +kernel, by decide +kernel⟩
theorem sc_Rule_after : FnScope ["self", "text", "state", "letter"] ["self", "text"] (defScope s_Rule_after) := ⟨rfl, rfl, rfl, by decide +kernel, rfl, by decide +kernel, by decide +kernel⟩
theorem sc_Rule_lets : FnScope ["self", "text", "letter"] ["self", "text", "letter"] (defScope s_Rule_lets) := ⟨rfl, rfl, rfl, by decide +kernel, rfl, by decide +kernel, by decide +kernel⟩
theorem sc_L_numbers : FnScope ["_law_cell", "_law_at", "_law_many", "_law_great", "_law_rest", "_law_numbers_here", "_law_k", "_law_mixed"] ["_law_cell", "_law_at", "_law_many"] (defScope s_L_numbers) := ⟨rfl, rfl, rfl, by decide +kernel, rfl, by decide +kernel, by decide +kernel⟩
theorem sc_L_same : FnScope ["_law_actual", "_law_expected", "_law_k"] ["_law_actual", "_law_expected"] (defScope s_L_same) := ⟨rfl, rfl, rfl, by decide +kernel, rfl, by decide +kernel, by decide +kernel⟩
theorem sc_L_vector : FnScope ["_law_numbers_here", "_law_at", "_law_width", "_law_prime", "_law_vector_here", "_law_j"] ["_law_numbers_here", "_law_at", "_law_width", "_law_prime"] (defScope s_L_vector) := ⟨rfl, rfl, rfl, by decide +kernel, rfl, by decide +kernel, by decide +kernel⟩
theorem sc_L_net : FnScope ["_law_numbers_here", "_law_letters", "_law_width", "_law_many", "_law_prime", "_law_rows_here", "_law_j", "_law_layers", "_law_at", "_law_matrices", "_law_first"] ["_law_numbers_here", "_law_letters", "_law_width", "_law_many", "_law_prime"] (defScope s_L_net) := ⟨rfl, rfl, rfl, by decide +kernel, rfl, by decide +kernel, by decide +kernel⟩
theorem sc_L_dot : FnScope ["_law_one", "_law_other", "_law_prime", "_law_total", "_law_k"] ["_law_one", "_law_other", "_law_prime"] (defScope s_L_dot) := ⟨rfl, rfl, rfl, by decide +kernel, rfl, by decide +kernel, by decide +kernel⟩
theorem sc_L_times : FnScope ["_law_matrix", "_law_vector_here", "_law_prime", "_law_row_here"] ["_law_matrix", "_law_vector_here", "_law_prime"] (defScope s_L_times) := ⟨rfl, rfl, rfl, by decide +kernel, rfl, by decide +kernel, by decide +kernel⟩
theorem sc_L_row : FnScope ["_law_net_here", "_law_rows_here", "_law_letter", "_law_prime", "_law_x", "_law_pairs", "_law_at", "_law_layer", "_law_asked", "_law_pair", "_law_other", "_law_near", "_law_squares", "_law_more", "_law_k", "_law_one", "_law_row_here"] ["_law_net_here", "_law_rows_here", "_law_letter"] (defScope s_L_row) := ⟨rfl, rfl, rfl, by decide +kernel, rfl, by decide +kernel, by decide +kernel⟩
theorem sc_L_rows : FnScope ["_law_net_here", "_law_letters", "_law_rows_here", "_law_letter"] ["_law_net_here", "_law_letters"] (defScope s_L_rows) := ⟨rfl, rfl, rfl, by decide +kernel, rfl, by decide +kernel, by decide +kernel⟩
theorem sc_L_after : FnScope ["_law_rule_here", "_law_text", "_law_state", "_law_letter"] ["_law_rule_here", "_law_text"] (defScope s_L_after) := ⟨rfl, rfl, rfl, by decide +kernel, rfl, by decide +kernel, by decide +kernel⟩
theorem sc_L_counted : FnScope ["_law_weights", "_law_rule_here", "_law_text", "_law_counted_here", "_law_state", "_law_letter"] ["_law_weights", "_law_rule_here", "_law_text"] (defScope s_L_counted) := ⟨rfl, rfl, rfl, by decide +kernel, rfl, by decide +kernel, by decide +kernel⟩
theorem sc_L_choice : FnScope ["_law_weights", "_law_rule_here", "_law_tape_here", "_law_text", "_law_counted_here", "_law_rest", "_law_letter", "_law_k"] ["_law_weights", "_law_rule_here", "_law_tape_here", "_law_text"] (defScope s_L_choice) := ⟨rfl, rfl, rfl, by decide +kernel, rfl, by decide +kernel, by decide +kernel⟩
theorem sc_L_rule : FnScope ["_law_numbers_here", "_law_k", "_law_letters", "_law_states", "_law_steps", "_law_state", "_law_row_here", "_law_letter", "_law_seed"] ["_law_numbers_here", "_law_k", "_law_letters"] (defScope s_L_rule) := ⟨rfl, rfl, rfl, by decide +kernel, rfl, by decide +kernel, by decide +kernel⟩
theorem sc_L_stops : FnScope ["_law_numbers_here", "_law_k", "_law_letters", "_law_stops_here", "_law_j", "_law_stop", "_law_i"] ["_law_numbers_here", "_law_k", "_law_letters"] (defScope s_L_stops) := ⟨rfl, rfl, rfl, by decide +kernel, rfl, by decide +kernel, by decide +kernel⟩
theorem sc_L_tape : FnScope ["_law_numbers_here", "_law_k", "_law_tape_here", "_law_j"] ["_law_numbers_here", "_law_k"] (defScope s_L_tape) := ⟨rfl, rfl, rfl, by decide +kernel, rfl, by decide +kernel, by decide +kernel⟩
theorem sc_L_ask : FnScope ["_law_numbers_here", "_law_letters", "_law_prompt", "_law_k", "_law_most", "_law_stops_here"] ["_law_numbers_here", "_law_letters"] (defScope s_L_ask) := ⟨rfl, rfl, rfl, by decide +kernel, rfl, by decide +kernel, by decide +kernel⟩
theorem sc_L_ends : FnScope ["_law_text", "_law_stop"] ["_law_text", "_law_stop"] (defScope s_L_ends) := ⟨rfl, rfl, rfl, by decide +kernel, rfl, by decide +kernel, by decide +kernel⟩
theorem sc_L_stopped : FnScope ["_law_text", "_law_stops_here", "_law_longest", "_law_stop"] ["_law_text", "_law_stops_here"] (defScope s_L_stopped) := ⟨rfl, rfl, rfl, by decide +kernel, rfl, by decide +kernel, by decide +kernel⟩
theorem sc_L_written : FnScope ["_law_net_here", "_law_end", "_law_ask_here", "_law_begun", "_law_rows_here", "_law_text", "_law_turn", "_law_letter", "_law_stopped_here"] ["_law_net_here", "_law_end", "_law_ask_here", "_law_begun"] (defScope s_L_written) := ⟨rfl, rfl, rfl, by decide +kernel, rfl, by decide +kernel, by decide +kernel⟩
theorem sc_L_made : FnScope ["_law_ask_here", "_law_rule_here"] ["_law_ask_here"] (defScope s_L_made) := ⟨rfl, rfl, rfl, by decide +kernel, rfl, by decide +kernel, by decide +kernel⟩
theorem sc_L_odd : FnScope ["_law_numbers_here", "_law_k", "_law_letters"] ["_law_numbers_here", "_law_k", "_law_letters"] (defScope s_L_odd) := ⟨rfl, rfl, rfl, by decide +kernel, rfl, by decide +kernel, by decide +kernel⟩
theorem sc_L_put : FnScope ["_law_row_here", "_law_place", "_law_value"] ["_law_row_here", "_law_place", "_law_value"] (defScope s_L_put) := ⟨rfl, rfl, rfl, by decide +kernel, rfl, by decide +kernel, by decide +kernel⟩
theorem sc_L_spoilt : FnScope ["_law_numbers_here", "_law_ask_here", "_law_begun", "_law_letters", "_law_prompt", "_law_stops_here", "_law_k", "_law_odd_here", "_law_seed", "_law_where", "_law_place"] ["_law_numbers_here", "_law_ask_here", "_law_begun", "_law_letters"] (defScope s_L_spoilt) := ⟨rfl, rfl, rfl, by decide +kernel, rfl, by decide +kernel, by decide +kernel⟩
theorem sc_L_first_bad : FnScope ["_law_ask_here", "_law_begun", "_law_letters", "_law_bad", "_law_row_here", "_law_letter"] ["_law_ask_here", "_law_begun", "_law_letters"] (defScope s_L_first_bad) := ⟨rfl, rfl, rfl, by decide +kernel, rfl, by decide +kernel, by decide +kernel⟩
theorem sc_L_refuses : FnScope ["_law_net_here", "_law_ask_here", "_law_begun", "_law_odd_here", "_law_kinds", "e"] ["_law_net_here", "_law_ask_here", "_law_begun", "_law_odd_here"] (defScope s_L_refuses) := ⟨rfl, rfl, rfl, by decide +kernel, rfl, by decide +kernel, by decide +kernel⟩
theorem sc_law : FnScope ["_law_script", "_law_at", "_law_numbers_here", "_law_primes", "_law_prime", "_law_letters", "_law_width", "_law_many", "_law_net_here", "_law_end", "_law_told", "_law_ask_here", "_law_whole", "_law_begun", "_law_handed", "_law_spoilt_here", "_law_bad", "_law_k"] ["_law_script"] (defScope s_law) := ⟨rfl, rfl, rfl, by decide +kernel, rfl, by decide +kernel, by decide +kernel⟩

structure Txt (K : PySem.W.Frag) (mg : Str → Option Value) : Type where
  z_ValueError : mg "ValueError" = none
  z_abs : mg "abs" = none
  z_bool : mg "bool" = none
  z_enumerate : mg "enumerate" = none
  z_int : mg "int" = none
  z_isinstance : mg "isinstance" = none
  z_len : mg "len" = none
  z_list : mg "list" = none
  z_max : mg "max" = none
  z_min : mg "min" = none
  z_range : mg "range" = none
  z_repr : mg "repr" = none
  z_str : mg "str" = none
  z_sum : mg "sum" = none
  z_tuple : mg "tuple" = none
  z_zip : mg "zip" = none
  c_Net : Addr
  C_Net : Cls K c_Net
  gc_Net : mg "Net" = some (.ref c_Net)
  n_Net_prime : NoAttr K c_Net "prime"
  n_Net_embed : NoAttr K c_Net "embed"
  n_Net_shift : NoAttr K c_Net "shift"
  n_Net_layers : NoAttr K c_Net "layers"
  n_Net_out : NoAttr K c_Net "out"
  n_Net_end : NoAttr K c_Net "end"
  c_Ask : Addr
  C_Ask : Cls K c_Ask
  gc_Ask : mg "Ask" = some (.ref c_Ask)
  n_Ask_prompt : NoAttr K c_Ask "prompt"
  n_Ask_most : NoAttr K c_Ask "most"
  n_Ask_stops : NoAttr K c_Ask "stops"
  n_Ask_tape : NoAttr K c_Ask "tape"
  n_Ask_rule : NoAttr K c_Ask "rule"
  c_Rule : Addr
  C_Rule : Cls K c_Rule
  gc_Rule : mg "Rule" = some (.ref c_Rule)
  n_Rule_start : NoAttr K c_Rule "start"
  n_Rule_steps : NoAttr K c_Rule "steps"
  c_ServeError : Addr
  gc_ServeError : mg "ServeError" = some (.ref c_ServeError)
  er_ServeError : ErrN K c_ServeError
  c_InvalidNumber : Addr
  gc_InvalidNumber : mg "InvalidNumber" = some (.ref c_InvalidNumber)
  er_InvalidNumber : ErrN K c_InvalidNumber
  c_InvalidLetter : Addr
  gc_InvalidLetter : mg "InvalidLetter" = some (.ref c_InvalidLetter)
  er_InvalidLetter : ErrN K c_InvalidLetter
  c_NoHouse : Addr
  gc_NoHouse : mg "NoHouse" = some (.ref c_NoHouse)
  er_NoHouse : ErrN K c_NoHouse
  c_NoRequest : Addr
  gc_NoRequest : mg "NoRequest" = some (.ref c_NoRequest)
  er_NoRequest : ErrN K c_NoRequest
  c_NoRoom : Addr
  gc_NoRoom : mg "NoRoom" = some (.ref c_NoRoom)
  er_NoRoom : ErrN K c_NoRoom
  c_NotAlone : Addr
  gc_NotAlone : mg "NotAlone" = some (.ref c_NotAlone)
  er_NotAlone : ErrN K c_NotAlone
  c_NotHeld : Addr
  gc_NotHeld : mg "NotHeld" = some (.ref c_NotHeld)
  er_NotHeld : ErrN K c_NotHeld
  c_TooLarge : Addr
  gc_TooLarge : mg "TooLarge" = some (.ref c_TooLarge)
  er_TooLarge : ErrN K c_TooLarge
  k_PRIMES : Addr
  gk_PRIMES : mg "PRIMES" = some (.ref k_PRIMES)
  tk_PRIMES : ∀ H : Hp, SqT K H k_PRIMES ([.int 2, .int 3, .int 5, .int 7, .int 11, .int 13, .int 17, .int 19, .int 23, .int 29, .int 31, .int 37, .int 41, .int 43, .int 47, .int 53, .int 59, .int 61, .int 67, .int 71, .int 73, .int 79, .int 83, .int 89, .int 97] : List V)
  tk_MOST_LETTERS : Tok
  gk_MOST_LETTERS : mg "MOST_LETTERS" = some (.int 30 tk_MOST_LETTERS)
  a_InvalidLetter___init__ : Addr
  d_InvalidLetter___init__ : FuncData
  F_InvalidLetter___init__ : Fun K "__init__" "InvalidLetter.__init__" s_InvalidLetter___init__ a_InvalidLetter___init__ d_InvalidLetter___init__
  b_InvalidLetter___init__ : Binds K d_InvalidLetter___init__ ["self", "letter"] []
  a_rows_of : Addr
  d_rows_of : FuncData
  F_rows_of : Fun K "rows_of" "rows_of" s_rows_of a_rows_of d_rows_of
  g_rows_of : mg "rows_of" = some (.ref a_rows_of)
  b_rows_of : Binds K d_rows_of ["net", "letters"] []
  a_check_letters : Addr
  d_check_letters : FuncData
  F_check_letters : Fun K "check_letters" "check_letters" s_check_letters a_check_letters d_check_letters
  g_check_letters : mg "check_letters" = some (.ref a_check_letters)
  b_check_letters : Binds K d_check_letters ["net", "ask", "begun"] []
  a_stop_length : Addr
  d_stop_length : FuncData
  F_stop_length : Fun K "stop_length" "stop_length" s_stop_length a_stop_length d_stop_length
  g_stop_length : mg "stop_length" = some (.ref a_stop_length)
  b_stop_length : Binds K d_stop_length ["stops", "text"] []
  a_next_text : Addr
  d_next_text : FuncData
  F_next_text : Fun K "next_text" "next_text" s_next_text a_next_text d_next_text
  g_next_text : mg "next_text" = some (.ref a_next_text)
  b_next_text : Binds K d_next_text ["net", "ask", "text", "weights"] []
  a_written : Addr
  d_written : FuncData
  F_written : Fun K "written" "written" s_written a_written d_written
  g_written : mg "written" = some (.ref a_written)
  kb_written : KBn K d_written ["net", "ask", "begun"] 2 ["begun"] (fun us ws => us ++ ws) (fun vs zs => vs ++ zs)
  w_written : Addr
  wt_written : ∀ H : Hp, SqT K H w_written []
  b_written : Binds K d_written ["net", "ask", "begun"] [.ref w_written]
  a_is_between : Addr
  d_is_between : FuncData
  F_is_between : Fun K "is_between" "is_between" s_is_between a_is_between d_is_between
  g_is_between : mg "is_between" = some (.ref a_is_between)
  b_is_between : Binds K d_is_between ["value", "least", "most"] []
  a_vector_of : Addr
  d_vector_of : FuncData
  F_vector_of : Fun K "vector_of" "vector_of" s_vector_of a_vector_of d_vector_of
  g_vector_of : mg "vector_of" = some (.ref a_vector_of)
  b_vector_of : Binds K d_vector_of ["numbers"] []
  a_matrix_of : Addr
  d_matrix_of : FuncData
  F_matrix_of : Fun K "matrix_of" "matrix_of" s_matrix_of a_matrix_of d_matrix_of
  g_matrix_of : mg "matrix_of" = some (.ref a_matrix_of)
  b_matrix_of : Binds K d_matrix_of ["rows"] []
  a_product_sum : Addr
  d_product_sum : FuncData
  F_product_sum : Fun K "product_sum" "product_sum" s_product_sum a_product_sum d_product_sum
  g_product_sum : mg "product_sum" = some (.ref a_product_sum)
  b_product_sum : Binds K d_product_sum ["one", "two"] []
  a_Net___init__ : Addr
  d_Net___init__ : FuncData
  F_Net___init__ : Fun K "__init__" "Net.__init__" s_Net___init__ a_Net___init__ d_Net___init__
  b_Net___init__ : Binds K d_Net___init__ ["self", "prime", "embed", "shift", "layers", "out", "end"] []
  M_Net : Mk K c_Net a_Net___init__
  a_Net_is_letter : Addr
  d_Net_is_letter : FuncData
  F_Net_is_letter : Fun K "is_letter" "Net.is_letter" s_Net_is_letter a_Net_is_letter d_Net_is_letter
  b_Net_is_letter : Binds K d_Net_is_letter ["self", "value"] []
  m_Net_is_letter : Meth K c_Net "is_letter" a_Net_is_letter
  a_Net_rest : Addr
  d_Net_rest : FuncData
  F_Net_rest : Fun K "rest" "Net.rest" s_Net_rest a_Net_rest d_Net_rest
  b_Net_rest : Binds K d_Net_rest ["self", "number"] []
  m_Net_rest : Meth K c_Net "rest" a_Net_rest
  a_Net_times : Addr
  d_Net_times : FuncData
  F_Net_times : Fun K "times" "Net.times" s_Net_times a_Net_times d_Net_times
  b_Net_times : Binds K d_Net_times ["self", "matrix", "vector"] []
  m_Net_times : Meth K c_Net "times" a_Net_times
  a_Net_plus : Addr
  d_Net_plus : FuncData
  F_Net_plus : Fun K "plus" "Net.plus" s_Net_plus a_Net_plus d_Net_plus
  b_Net_plus : Binds K d_Net_plus ["self", "one", "two"] []
  m_Net_plus : Meth K c_Net "plus" a_Net_plus
  a_Net_looked_at : Addr
  d_Net_looked_at : FuncData
  F_Net_looked_at : Fun K "looked_at" "Net.looked_at" s_Net_looked_at a_Net_looked_at d_Net_looked_at
  b_Net_looked_at : Binds K d_Net_looked_at ["self", "query", "pairs"] []
  m_Net_looked_at : Meth K c_Net "looked_at" a_Net_looked_at
  a_Net_row : Addr
  d_Net_row : FuncData
  F_Net_row : Fun K "row" "Net.row" s_Net_row a_Net_row d_Net_row
  b_Net_row : Binds K d_Net_row ["self", "rows", "letter"] []
  m_Net_row : Meth K c_Net "row" a_Net_row
  a_greatest : Addr
  d_greatest : FuncData
  F_greatest : Fun K "greatest" "greatest" s_greatest a_greatest d_greatest
  g_greatest : mg "greatest" = some (.ref a_greatest)
  b_greatest : Binds K d_greatest ["weights"] []
  a_by_number : Addr
  d_by_number : FuncData
  F_by_number : Fun K "by_number" "by_number" s_by_number a_by_number d_by_number
  g_by_number : mg "by_number" = some (.ref a_by_number)
  b_by_number : Binds K d_by_number ["weights", "number"] []
  a_Ask___init__ : Addr
  d_Ask___init__ : FuncData
  F_Ask___init__ : Fun K "__init__" "Ask.__init__" s_Ask___init__ a_Ask___init__ d_Ask___init__
  kb_Ask___init__ : KBn K d_Ask___init__ ["self", "prompt", "most", "stops", "tape", "rule"] 3 ["stops", "tape", "rule"] (fun us ws => us ++ ws) (fun vs zs => vs ++ zs)
  M_Ask : Mk K c_Ask a_Ask___init__
  a_Ask_let_weights : Addr
  d_Ask_let_weights : FuncData
  F_Ask_let_weights : Fun K "let_weights" "Ask.let_weights" s_Ask_let_weights a_Ask_let_weights d_Ask_let_weights
  b_Ask_let_weights : Binds K d_Ask_let_weights ["self", "weights", "text"] []
  m_Ask_let_weights : Meth K c_Ask "let_weights" a_Ask_let_weights
  a_Ask_choice : Addr
  d_Ask_choice : FuncData
  F_Ask_choice : Fun K "choice" "Ask.choice" s_Ask_choice a_Ask_choice d_Ask_choice
  b_Ask_choice : Binds K d_Ask_choice ["self", "weights", "text"] []
  m_Ask_choice : Meth K c_Ask "choice" a_Ask_choice
  a_Rule___init__ : Addr
  d_Rule___init__ : FuncData
  F_Rule___init__ : Fun K "__init__" "Rule.__init__" s_Rule___init__ a_Rule___init__ d_Rule___init__
  b_Rule___init__ : Binds K d_Rule___init__ ["self", "start", "steps"] []
  M_Rule : Mk K c_Rule a_Rule___init__
  a_Rule_after : Addr
  d_Rule_after : FuncData
  F_Rule_after : Fun K "after" "Rule.after" s_Rule_after a_Rule_after d_Rule_after
  b_Rule_after : Binds K d_Rule_after ["self", "text"] []
  m_Rule_after : Meth K c_Rule "after" a_Rule_after
  a_Rule_lets : Addr
  d_Rule_lets : FuncData
  F_Rule_lets : Fun K "lets" "Rule.lets" s_Rule_lets a_Rule_lets d_Rule_lets
  b_Rule_lets : Binds K d_Rule_lets ["self", "text", "letter"] []
  m_Rule_lets : Meth K c_Rule "lets" a_Rule_lets
  a_L_numbers : Addr
  d_L_numbers : FuncData
  F_L_numbers : Fun K "_law_numbers" "_law_numbers" s_L_numbers a_L_numbers d_L_numbers
  g_L_numbers : mg "_law_numbers" = some (.ref a_L_numbers)
  b_L_numbers : Binds K d_L_numbers ["_law_cell", "_law_at", "_law_many"] []
  a_L_same : Addr
  d_L_same : FuncData
  F_L_same : Fun K "_law_same" "_law_same" s_L_same a_L_same d_L_same
  g_L_same : mg "_law_same" = some (.ref a_L_same)
  b_L_same : Binds K d_L_same ["_law_actual", "_law_expected"] []
  a_L_vector : Addr
  d_L_vector : FuncData
  F_L_vector : Fun K "_law_vector" "_law_vector" s_L_vector a_L_vector d_L_vector
  g_L_vector : mg "_law_vector" = some (.ref a_L_vector)
  b_L_vector : Binds K d_L_vector ["_law_numbers_here", "_law_at", "_law_width", "_law_prime"] []
  a_L_net : Addr
  d_L_net : FuncData
  F_L_net : Fun K "_law_net" "_law_net" s_L_net a_L_net d_L_net
  g_L_net : mg "_law_net" = some (.ref a_L_net)
  b_L_net : Binds K d_L_net ["_law_numbers_here", "_law_letters", "_law_width", "_law_many", "_law_prime"] []
  a_L_dot : Addr
  d_L_dot : FuncData
  F_L_dot : Fun K "_law_dot" "_law_dot" s_L_dot a_L_dot d_L_dot
  g_L_dot : mg "_law_dot" = some (.ref a_L_dot)
  b_L_dot : Binds K d_L_dot ["_law_one", "_law_other", "_law_prime"] []
  a_L_times : Addr
  d_L_times : FuncData
  F_L_times : Fun K "_law_times" "_law_times" s_L_times a_L_times d_L_times
  g_L_times : mg "_law_times" = some (.ref a_L_times)
  b_L_times : Binds K d_L_times ["_law_matrix", "_law_vector_here", "_law_prime"] []
  a_L_row : Addr
  d_L_row : FuncData
  F_L_row : Fun K "_law_row" "_law_row" s_L_row a_L_row d_L_row
  g_L_row : mg "_law_row" = some (.ref a_L_row)
  b_L_row : Binds K d_L_row ["_law_net_here", "_law_rows_here", "_law_letter"] []
  a_L_rows : Addr
  d_L_rows : FuncData
  F_L_rows : Fun K "_law_rows" "_law_rows" s_L_rows a_L_rows d_L_rows
  g_L_rows : mg "_law_rows" = some (.ref a_L_rows)
  b_L_rows : Binds K d_L_rows ["_law_net_here", "_law_letters"] []
  a_L_after : Addr
  d_L_after : FuncData
  F_L_after : Fun K "_law_after" "_law_after" s_L_after a_L_after d_L_after
  g_L_after : mg "_law_after" = some (.ref a_L_after)
  b_L_after : Binds K d_L_after ["_law_rule_here", "_law_text"] []
  a_L_counted : Addr
  d_L_counted : FuncData
  F_L_counted : Fun K "_law_counted" "_law_counted" s_L_counted a_L_counted d_L_counted
  g_L_counted : mg "_law_counted" = some (.ref a_L_counted)
  b_L_counted : Binds K d_L_counted ["_law_weights", "_law_rule_here", "_law_text"] []
  a_L_choice : Addr
  d_L_choice : FuncData
  F_L_choice : Fun K "_law_choice" "_law_choice" s_L_choice a_L_choice d_L_choice
  g_L_choice : mg "_law_choice" = some (.ref a_L_choice)
  b_L_choice : Binds K d_L_choice ["_law_weights", "_law_rule_here", "_law_tape_here", "_law_text"] []
  a_L_rule : Addr
  d_L_rule : FuncData
  F_L_rule : Fun K "_law_rule" "_law_rule" s_L_rule a_L_rule d_L_rule
  g_L_rule : mg "_law_rule" = some (.ref a_L_rule)
  b_L_rule : Binds K d_L_rule ["_law_numbers_here", "_law_k", "_law_letters"] []
  a_L_stops : Addr
  d_L_stops : FuncData
  F_L_stops : Fun K "_law_stops" "_law_stops" s_L_stops a_L_stops d_L_stops
  g_L_stops : mg "_law_stops" = some (.ref a_L_stops)
  b_L_stops : Binds K d_L_stops ["_law_numbers_here", "_law_k", "_law_letters"] []
  a_L_tape : Addr
  d_L_tape : FuncData
  F_L_tape : Fun K "_law_tape" "_law_tape" s_L_tape a_L_tape d_L_tape
  g_L_tape : mg "_law_tape" = some (.ref a_L_tape)
  b_L_tape : Binds K d_L_tape ["_law_numbers_here", "_law_k"] []
  a_L_ask : Addr
  d_L_ask : FuncData
  F_L_ask : Fun K "_law_ask" "_law_ask" s_L_ask a_L_ask d_L_ask
  g_L_ask : mg "_law_ask" = some (.ref a_L_ask)
  b_L_ask : Binds K d_L_ask ["_law_numbers_here", "_law_letters"] []
  a_L_ends : Addr
  d_L_ends : FuncData
  F_L_ends : Fun K "_law_ends" "_law_ends" s_L_ends a_L_ends d_L_ends
  g_L_ends : mg "_law_ends" = some (.ref a_L_ends)
  b_L_ends : Binds K d_L_ends ["_law_text", "_law_stop"] []
  a_L_stopped : Addr
  d_L_stopped : FuncData
  F_L_stopped : Fun K "_law_stopped" "_law_stopped" s_L_stopped a_L_stopped d_L_stopped
  g_L_stopped : mg "_law_stopped" = some (.ref a_L_stopped)
  b_L_stopped : Binds K d_L_stopped ["_law_text", "_law_stops_here"] []
  a_L_written : Addr
  d_L_written : FuncData
  F_L_written : Fun K "_law_written" "_law_written" s_L_written a_L_written d_L_written
  g_L_written : mg "_law_written" = some (.ref a_L_written)
  b_L_written : Binds K d_L_written ["_law_net_here", "_law_end", "_law_ask_here", "_law_begun"] []
  a_L_made : Addr
  d_L_made : FuncData
  F_L_made : Fun K "_law_made" "_law_made" s_L_made a_L_made d_L_made
  g_L_made : mg "_law_made" = some (.ref a_L_made)
  b_L_made : Binds K d_L_made ["_law_ask_here"] []
  a_L_odd : Addr
  d_L_odd : FuncData
  F_L_odd : Fun K "_law_odd" "_law_odd" s_L_odd a_L_odd d_L_odd
  g_L_odd : mg "_law_odd" = some (.ref a_L_odd)
  b_L_odd : Binds K d_L_odd ["_law_numbers_here", "_law_k", "_law_letters"] []
  a_L_put : Addr
  d_L_put : FuncData
  F_L_put : Fun K "_law_put" "_law_put" s_L_put a_L_put d_L_put
  g_L_put : mg "_law_put" = some (.ref a_L_put)
  b_L_put : Binds K d_L_put ["_law_row_here", "_law_place", "_law_value"] []
  a_L_spoilt : Addr
  d_L_spoilt : FuncData
  F_L_spoilt : Fun K "_law_spoilt" "_law_spoilt" s_L_spoilt a_L_spoilt d_L_spoilt
  g_L_spoilt : mg "_law_spoilt" = some (.ref a_L_spoilt)
  b_L_spoilt : Binds K d_L_spoilt ["_law_numbers_here", "_law_ask_here", "_law_begun", "_law_letters"] []
  a_L_first_bad : Addr
  d_L_first_bad : FuncData
  F_L_first_bad : Fun K "_law_first_bad" "_law_first_bad" s_L_first_bad a_L_first_bad d_L_first_bad
  g_L_first_bad : mg "_law_first_bad" = some (.ref a_L_first_bad)
  b_L_first_bad : Binds K d_L_first_bad ["_law_ask_here", "_law_begun", "_law_letters"] []
  a_L_refuses : Addr
  d_L_refuses : FuncData
  F_L_refuses : Fun K "_law_refuses" "_law_refuses" s_L_refuses a_L_refuses d_L_refuses
  g_L_refuses : mg "_law_refuses" = some (.ref a_L_refuses)
  b_L_refuses : Binds K d_L_refuses ["_law_net_here", "_law_ask_here", "_law_begun", "_law_odd_here"] []
  a_law : Addr
  d_law : FuncData
  F_law : Fun K "law" "law" s_law a_law d_law
  g_law : mg "law" = some (.ref a_law)
  b_law : Binds K d_law ["_law_script"] []
  ox_InvalidLetter : OexC K c_InvalidLetter
  ic_InvalidLetter : PySem.W.findIn K (.ref c_InvalidLetter) "__init__" = some (some (.ref a_InvalidLetter___init__))
  ti_InvalidLetter : PySem.W.typeIn K (.ref a_InvalidLetter___init__) = some (.type "function")
  nf_InvalidLetter : PySem.W.findIn K (.ref c_InvalidLetter) "letter" = some none
  xf_InvalidLetter : XfC K c_InvalidLetter
  ec_InvalidLetter : ExcC K c_InvalidLetter
  sv_InvalidLetter : PySem.W.subIn K (.ref c_InvalidLetter) (.type "ValueError") = some true
  sub_InvalidLetter_ServeError : PySem.W.subIn K (.ref c_InvalidLetter) (.ref c_ServeError) = some true
  sub_InvalidLetter_InvalidNumber : PySem.W.subIn K (.ref c_InvalidLetter) (.ref c_InvalidNumber) = some false
  sub_InvalidLetter_InvalidLetter : PySem.W.subIn K (.ref c_InvalidLetter) (.ref c_InvalidLetter) = some true
  sub_InvalidLetter_NoHouse : PySem.W.subIn K (.ref c_InvalidLetter) (.ref c_NoHouse) = some false
  sub_InvalidLetter_NoRequest : PySem.W.subIn K (.ref c_InvalidLetter) (.ref c_NoRequest) = some false
  sub_InvalidLetter_NoRoom : PySem.W.subIn K (.ref c_InvalidLetter) (.ref c_NoRoom) = some false
  sub_InvalidLetter_NotAlone : PySem.W.subIn K (.ref c_InvalidLetter) (.ref c_NotAlone) = some false
  sub_InvalidLetter_NotHeld : PySem.W.subIn K (.ref c_InvalidLetter) (.ref c_NotHeld) = some false
  sub_InvalidLetter_TooLarge : PySem.W.subIn K (.ref c_InvalidLetter) (.ref c_TooLarge) = some false

section
variable {P : Program} {w : World} {K : PySem.W.Frag} {mg : Str → Option Value} {base : Heap}
theorem ok_InvalidLetter___init__ (T : Txt K mg) : FnOk P w K mg base CX0 1 T.a_InvalidLetter___init__ T.d_InvalidLetter___init__ ["self", "letter"] (spErr K "letter") := by
  refine T.F_InvalidLetter___init__.ok sc_InvalidLetter___init__ (fun vs H Q E h => ?_) (fun cdv A outer s H vs Q E hr h => ?_)
  · obtain ⟨_, _, _, rfl, _⟩ := h
    rfl
  · obtain ⟨a, C, v, rfl, h0, T1, n1, k⟩ := h
    refine ⟨_, (pss_one (ps_ost (pv 0) (pv 1) rfl)), ?_⟩
    refine go_start (σ' := [some (.ref a), some v]) rfl ?_
    exact ⟨v, rfl, .ref a, rfl, a, C, rfl, T1, n1, .inl ⟨h0, fun dx hdx hne => k dx hdx hne⟩⟩

/-! ### nets over the heap -/
abbrev RMat (K : PySem.W.Frag) : Rep Mat := RSeq false K (RVec false K)
abbrev RPr (K : PySem.W.Frag) : Rep PairD := RPair K (RVec false K) (RVec false K)
abbrev RRow (K : PySem.W.Frag) : Rep RowD := RPair K (RSeq false K (RPr K)) (RVec false K)
theorem RMat.mono {K : PySem.W.Frag} : RMono (RMat K) := RSeq.mono RVec.mono
theorem RMat.tup {K : PySem.W.Frag} : RTup (RMat K) := RSeq.tup RVec.tup
theorem RPr.mono {K : PySem.W.Frag} : RMono (RPr K) := RPair.mono RVec.mono RVec.mono
theorem RPr.tup {K : PySem.W.Frag} : RTup (RPr K) := RPair.tup RVec.tup RVec.tup
theorem RRow.mono {K : PySem.W.Frag} : RMono (RRow K) := RPair.mono (RSeq.mono RPr.mono) RVec.mono
theorem RRow.tup {K : PySem.W.Frag} : RTup (RRow K) := RPair.tup (RSeq.tup RPr.tup) RVec.tup
/-- numbers in a list or a tuple; rows of such -/
def RVecX (K : PySem.W.Frag) : Rep (List Int) := fun H v ns => ∃ b, RVec b K H v ns
theorem RVecX.mono {K : PySem.W.Frag} : RMono (RVecX K) := fun _ _ _ _ s ⟨b, h⟩ => ⟨b, RVec.mono _ _ _ _ s h⟩
def RMatX (K : PySem.W.Frag) : Rep Mat := fun H v M => ∃ b, RSeq b K (RVecX K) H v M
theorem RMatX.mono {K : PySem.W.Frag} : RMono (RMatX K) := fun _ _ _ _ s ⟨b, h⟩ => ⟨b, RSeq.mono RVecX.mono _ _ _ _ s h⟩
def RLayX (K : PySem.W.Frag) : Rep (List (List Mat)) := fun H v Ls => ∃ b, RSeq b K (fun H v L => ∃ b', RSeq b' K (RMatX K) H v L) H v Ls
theorem RLayX.mono {K : PySem.W.Frag} : RMono (RLayX K) := fun _ _ _ _ s ⟨b, h⟩ => ⟨b, RSeq.mono (fun _ _ _ _ s ⟨b', h'⟩ => ⟨b', RSeq.mono RMatX.mono _ _ _ _ s h'⟩) _ _ _ _ s h⟩
theorem RMat.x {K : PySem.W.Frag} {H : Hp} {v : V} {M : Mat} (h : RMat K H v M) : RMatX K H v M := by
  obtain ⟨a, vs, e, h1, h2, h3⟩ := h
  exact ⟨false, a, vs, e, h1, h2, fun i y x e1 e2 => ⟨false, h3 i y x e1 e2⟩⟩
/-- a net's object -/
def netF (nd : NetD) (v1 v2 v3 v4 v5 : V) : List (Str × V) := [("prime", .int nd.p), ("embed", v1), ("shift", v2), ("layers", v3), ("out", v4), ("end", v5)]
def IsNet (K : PySem.W.Frag) (C : Addr) (H : Hp) (p : Addr) (nd : NetD) (e : V) : Prop := ∃ dx v1 v2 v3 v4, H p = some (.ins C dx (netF nd v1 v2 v3 v4 e)) ∧ RMat K H v1 nd.emb ∧ RVec false K H v2 nd.sh ∧ RSeq false K (RSeq false K (RMat K)) H v3 nd.lay ∧ RMat K H v4 nd.out
theorem IsNet.mono {K : PySem.W.Frag} {C : Addr} {H H' : Hp} {p : Addr} {nd : NetD} {e : V} (s : Same H H') (h : IsNet K C H p nd e) : IsNet K C H' p nd e := by
  obtain ⟨dx, v1, v2, v3, v4, h0, h1, h2, h3, h4⟩ := h
  exact ⟨dx, v1, v2, v3, v4, s _ _ h0, RMat.mono _ _ _ _ s h1, RVec.mono _ _ _ _ s h2, RSeq.mono (RSeq.mono RMat.mono) _ _ _ _ s h3, RMat.mono _ _ _ _ s h4⟩
theorem line_of {n : Nat} (h : n ≤ 1000000) : n < sizeLine := by rw [sizeLine_eq]; omega

/-! ### is_between -/
def sp_is_between (K : PySem.W.Frag) : Sp := fun vs H Q _ => ∃ (x : V) (a b : Int) (r : Bool), vs = [x, .int a, .int b] ∧
  ((∃ v, x = .int v ∧ r = decide (a ≤ v ∧ v ≤ b)) ∨ (r = false ∧ ∃ tn, TyX K H x (.type tn) ∧ (tn = "bool" ∨ tn = "NoneType" ∨ tn = "str" ∨ tn = "tuple" ∨ tn = "list"))) ∧ Q (.bl r) H
theorem ok_is_between (T : Txt K mg) : FnOk P w K mg base CX0 1 T.a_is_between T.d_is_between ["value", "least", "most"] (sp_is_between K) := by
  refine T.F_is_between.ok sc_is_between (fun vs H Q E h => ?_) (fun cdv A outer s H vs Q E hr h => ?_)
  · obtain ⟨_, _, _, _, rfl, _⟩ := h
    rfl
  · obtain ⟨x, a, b, r, rfl, hx, k⟩ := h
    refine ⟨_, (pss_one (ps_ret (pe_and (pe_callB (k_isi (K := K) rfl) (by rfl) T.z_isinstance (by decide +kernel) (pa_cons (pv 0) (pa_cons (pe_bltn (v := .ty "int") (by rfl) T.z_int (by decide +kernel) rfl) pa_nil))) (pe_and (pe_not (pe_callB (k_isi (K := K) rfl) (by rfl) T.z_isinstance (by decide +kernel) (pa_cons (pv 0) (pa_cons (pe_bltn (v := .ty "bool") (by rfl) T.z_bool (by decide +kernel) rfl) pa_nil)))) (pe_one (pe_chain op_le op_le (pv 1) (pv 0) (pv 2))))))), ?_⟩
    refine go_start (σ' := [some x, some (.int a), some (.int b)]) rfl ?_
    try dsimp only [cxOf, Cx.nox, Cx.wish]
    rcases hx with ⟨v, rfl, rfl⟩ | ⟨rfl, tn, ht, h5⟩
    · walk_at "go"
      refine w_isi (tn := "int") (b := true) (.base (.int _)) (by decide +kernel) ?_
      walk_at "go"
      refine w_isi (tn := "int") (b := false) (.base (.int _)) (by decide +kernel) ?_
      walk_at "go"
      refine w_iteD (fun h1 => ?_) (fun h1 => ?_)
      · walk_at "go"
        rw [show decide (v ≤ b) = decide (a ≤ v ∧ v ≤ b) by simp [h1]]
        exact k
      · walk_at "go"
        rw [show false = decide (a ≤ v ∧ v ≤ b) by simp [h1]]
        exact k
    · walk_at "go"
      rcases h5 with rfl | h5
      · refine w_isi (tn := "bool") (b := true) ht (by decide +kernel) ?_
        walk_at "go"
        refine w_isi (tn := "bool") (b := true) ht (by decide +kernel) ?_
        walk_at "go"
        exact k
      · have e : kitB tn "int" = some false := by rcases h5 with rfl | rfl | rfl | rfl <;> decide +kernel
        refine w_isi (tn := tn) (b := false) ht e ?_
        walk_at "go"
        exact k

/-! ### vectors and matrices -/
def sp_vector_of (K : PySem.W.Frag) : Sp := fun vs H Q _ => ∃ (v : V) (ns : List Int), vs = [v] ∧ RVecX K H v ns ∧ ∀ v' H', Same H H' → RVec false K H' v' ns → Q v' H'
theorem ok_vector_of (T : Txt K mg) : FnOk P w K mg base CX0 1 T.a_vector_of T.d_vector_of ["numbers"] (sp_vector_of K) := by
  refine T.F_vector_of.ok sc_vector_of (fun vs H Q E h => ?_) (fun cdv A outer s H vs Q E hr h => ?_)
  · obtain ⟨_, _, rfl, _⟩ := h
    rfl
  · obtain ⟨v, ns, rfl, ⟨b, a, rfl, hS⟩, k⟩ := h
    refine ⟨_, (pss_one (ps_ret (pe_callTy (k_tupS (K := K) rfl) (by rfl) T.z_tuple (by decide +kernel) (pa_cons (pv 0) pa_nil)))), ?_⟩
    refine go_start (σ' := [some (.ref a)]) rfl ?_
    try dsimp only [cxOf, Cx.nox, Cx.wish]
    walk_at "go"
    cases b with
    | true =>
      refine w_tupL hS fun l hl => ?_
      walk_at "go"
      exact k _ _ (Same.new hl) ⟨l, rfl, Sq.tup upd_same⟩
    | false =>
      refine w_tupT hS ?_
      walk_at "go"
      exact k _ _ (Same.refl _) ⟨a, rfl, hS⟩
def sp_matrix_of (K : PySem.W.Frag) : Sp := fun vs H Q _ => ∃ (v : V) (M : Mat), vs = [v] ∧ RMatX K H v M ∧ M.length ≤ 100000 ∧ ∀ v' H', Same H H' → RMat K H' v' M → Q v' H'
theorem ok_matrix_of (T : Txt K mg) : FnOk P w K mg base CX0 2 T.a_matrix_of T.d_matrix_of ["rows"] (sp_matrix_of K) := by
  refine T.F_matrix_of.ok sc_matrix_of (fun vs H Q E h => ?_) (fun cdv A outer s H vs Q E hr h => ?_)
  · obtain ⟨_, _, rfl, _⟩ := h
    rfl
  · obtain ⟨v, M, rfl, ⟨b, a, xs, rfl, hS, hl, hr2⟩, hz, k⟩ := h
    refine ⟨_, (pss_one (ps_ret (pe_callTy (k_tupS (K := K) rfl) (by rfl) T.z_tuple (by decide +kernel) (pa_cons (pe_lc (own := [("row", 1)]) (g := gName 1) (tt := tYes) rfl sc_matrix_of.nd (k_seqS (K := K) rfl (pv 0)) (blkOk_by (own := [("row", 1)]) (by kernel_rfl)) (fun _ _ _ _ _ => (pg_name (i := 1) sc_matrix_of.nd rfl (by first | exact Or.inl rfl | exact Or.inr rfl))) (fun _ _ _ _ _ => pts_nil) (fun _ _ _ _ _ => (pe_call (ok_vector_of T) (hr.mono (by decide)) (by rfl) T.g_vector_of T.F_vector_of.kp T.b_vector_of .nil pass0 (pa_cons (pv 1) pa_nil)))) pa_nil)))), ?_⟩
    refine go_start (σ' := [some (.ref a), none]) rfl ?_
    try dsimp only [cxOf, Cx.nox, Cx.wish]
    walk_at "go"
    refine c_rep (R := RVec false K) RVec.mono RVec.tup xs hS M (by omega) (line_of (by omega)) (fun _ => rfl) (fun i x d H1 N hi hx hd sm hN => ?_) (fun D H' ys hD sm e hly hry => ?_)
    · walk_at "go"
      exact ⟨x, d, rfl, RVecX.mono _ _ _ _ sm (hr2 i x d hx hd), fun v' H4 s4 r4 => hN v' H4 s4 r4⟩
    · walk_at "go"
      refine w_tupL (Sq.lst e) fun l hl2 => ?_
      walk_at "go"
      exact k _ _ (sm.trans (Same.new hl2)) ⟨l, ys, rfl, Sq.tup upd_same, hly, fun i y x h1 h2 => RVec.mono _ _ _ _ (Same.new hl2) (hry i y x h1 h2)⟩
def sp_product_sum (K : PySem.W.Frag) : Sp := fun vs H Q _ => ∃ (v1 v2 : V) (us ws : List Int), vs = [v1, v2] ∧ RVecX K H v1 us ∧ RVecX K H v2 ws ∧ us.length = ws.length ∧ Bd us ∧ ∀ H', Same H H' → Q (.int (dot us ws)) H'
theorem ok_product_sum (T : Txt K mg) : FnOk P w K mg base CX0 1 T.a_product_sum T.d_product_sum ["one", "two"] (sp_product_sum K) := by
  refine T.F_product_sum.ok sc_product_sum (fun vs H Q E h => ?_) (fun cdv A outer s H vs Q E hr h => ?_)
  · obtain ⟨_, _, _, _, rfl, _⟩ := h
    rfl
  · obtain ⟨v1, v2, us, ws, rfl, ⟨b1, a1, rfl, h1⟩, ⟨b2, a2, rfl, h2⟩, hl, hB, k⟩ := h
    refine ⟨_, (pss_cons (ps_set (i := 2) sc_product_sum.nd rfl (Or.inl rfl) pe_int)
      (pss_cons (ps_for PassesOwn.never rfl (k_zipS (K := K) rfl (by rfl) T.z_zip (pa_cons (pv 0) (pa_cons (pv 1) pa_nil))) (k_tup (K := K) rfl rfl (pgs_cons (pg_name (i := 3) sc_product_sum.nd rfl (Or.inl rfl)) (pgs_cons (pg_name (i := 4) sc_product_sum.nd rfl (Or.inl rfl)) pgs_nil)))
      (pss_one (ps_aug (i := 2) sc_product_sum.nd rfl (Or.inl rfl) (pe_op op_mul (pv 3) (pv 4)) ip_add)))
      (pss_one (ps_ret (pv 2))))), ?_⟩
    refine go_start (σ' := [some (.ref a1), some (.ref a2), none, none, none]) rfl ?_
    try dsimp only [cxOf, Cx.nox, Cx.wish]
    walk_at "go"
    refine l_zip (b1 := b1) (b2 := b2) (us.map V.int) (ws.map V.int) (by rw [List.length_map, List.length_map, hl]) (fun i σ H' => ∃ y3 y4, σ = [some (.ref a1), some (.ref a2), some (.int (pre (List.zipWith (· * ·) us ws) i)), y3, y4] ∧ Same H H')
      h1 h2 ⟨none, none, by rw [pre_zero]; rfl, Same.refl _⟩ (fun i σ H' _ ⟨_, _, _, sm⟩ => ⟨sm.sq h1, sm.sq h2⟩) ?_ ?_
    · rintro i x y T' σ H' hi hx hy ⟨y3, y4, rfl, sm⟩ hT
      obtain ⟨rfl, hi1⟩ := vec_at hx
      obtain ⟨rfl, hi2⟩ := vec_at hy
      refine w_pair (Sq.tup upd_same) ?_
      have hb := hB _ (nth_mem (ns := us) (i := ((i : Nat) : Int)) (by omega) (by omega))
      walk_at "go"
      have e := pre_succ (ns := List.zipWith (· * ·) us ws) (j := i) (by rw [List.length_zipWith]; omega)
      rw [nth_zip hi1 hi2] at e
      exact ⟨_, _, by rw [e]; rfl, sm.trans (Same.new hT)⟩
    · rintro σ H' ⟨y3, y4, rfl, sm⟩
      walk_at "go"
      rw [show (us.map V.int).length = (List.zipWith (· * ·) us ws).length by rw [List.length_map, List.length_zipWith, hl, Nat.min_self], pre_all]
      exact k _ sm

/-! ### the net's own methods -/
def sp_Net_rest (K : PySem.W.Frag) (C : Addr) : Sp := fun vs H Q _ => ∃ (p : Addr) (nd : NetD) (e : V) (n : Int), vs = [.ref p, .int n] ∧ IsNet K C H p nd e ∧ 0 < nd.p ∧ Q (.int (n % nd.p)) H
theorem ok_Net_rest (T : Txt K mg) : FnOk P w K mg base CX0 1 T.a_Net_rest T.d_Net_rest ["self", "number"] (sp_Net_rest K T.c_Net) := by
  refine T.F_Net_rest.ok sc_Net_rest (fun vs H Q E h => ?_) (fun cdv A outer s H vs Q E hr h => ?_)
  · obtain ⟨_, _, _, _, rfl, _⟩ := h
    rfl
  · obtain ⟨p, nd, e, n, rfl, ⟨dx, v1, v2, v3, v4, h0, _⟩, hp, k⟩ := h
    have cN := T.C_Net
    have n1 := T.n_Net_prime
    unfold netF at h0
    refine ⟨_, (pss_one (ps_ret (pe_op op_mod (pe_callTy cr_int1 (by rfl) T.z_int (by decide +kernel) (pa_cons (pv 1) pa_nil)) (k_fld (K := K) rfl (pv 0) rfl)))), ?_⟩
    refine go_start (σ' := [some (.ref p), some (.int n)]) rfl ?_
    try dsimp only [cxOf, Cx.nox, Cx.wish]
    walk_at "go"
    exact k
def sp_Net_plus (K : PySem.W.Frag) (C : Addr) : Sp := fun vs H Q _ => ∃ (p : Addr) (nd : NetD) (e v1 v2 : V) (us ws : List Int), vs = [.ref p, v1, v2] ∧ IsNet K C H p nd e ∧ 0 < nd.p ∧ RVecX K H v1 us ∧ RVecX K H v2 ws ∧ us.length = ws.length ∧ us.length ≤ 1000 ∧
  ∀ v' H', Same H H' → RVec false K H' v' (vplus nd.p us ws) → Q v' H'
theorem ok_Net_plus (T : Txt K mg) : FnOk P w K mg base CX0 2 T.a_Net_plus T.d_Net_plus ["self", "one", "two"] (sp_Net_plus K T.c_Net) := by
  refine T.F_Net_plus.ok sc_Net_plus (fun vs H Q E h => ?_) (fun cdv A outer s H vs Q E hr h => ?_)
  · obtain ⟨_, _, _, _, _, _, _, rfl, _⟩ := h
    rfl
  · obtain ⟨p, nd, e, v1, v2, us, ws, rfl, hN, hp, ⟨b1, a1, rfl, h1⟩, ⟨b2, a2, rfl, h2⟩, hl, hz, k⟩ := h
    obtain ⟨dx, _, _, _, _, h0, _⟩ := id hN
    unfold netF at h0
    refine ⟨_, (pss_one (ps_ret (pe_callTy (k_tupS (K := K) rfl) (by rfl) T.z_tuple (by decide +kernel) (pa_cons (pe_lc (own := [("number", 3), ("other", 4)]) (g := gTup K 2 (gCons (gName 3) (gCons (gName 4) (gNil)))) (tt := tYes) rfl sc_Net_plus.nd (k_zipS (K := K) rfl (by rfl) T.z_zip (pa_cons (pv 1) (pa_cons (pv 2) pa_nil))) (blkOk_by (own := [("number", 3), ("other", 4)]) (by kernel_rfl)) (fun _ _ _ _ _ => (k_tup (K := K) rfl rfl (pgs_cons (pg_name (i := 3) sc_Net_plus.nd rfl (by first | exact Or.inl rfl | exact Or.inr rfl)) (pgs_cons (pg_name (i := 4) sc_Net_plus.nd rfl (by first | exact Or.inl rfl | exact Or.inr rfl)) pgs_nil)))) (fun _ _ _ _ _ => pts_nil) (fun _ _ _ _ _ => (pe_meth (pv 0) T.C_Net T.m_Net_rest (ok_Net_rest T) (hr.mono (by decide)) T.b_Net_rest .nil pass0 (pa_cons (pe_op (k_addG (K := K) rfl) (pv 3) (pv 4)) pa_nil)))) pa_nil)))), ?_⟩
    refine go_start (σ' := [some (.ref p), some (.ref a1), some (.ref a2), none, none]) rfl ?_
    try dsimp only [cxOf, Cx.nox, Cx.wish]
    walk_at "go"
    refine c_intsZ (us.map V.int) (ws.map V.int) (by rw [List.length_map, List.length_map, hl]) h1 h2 (vplus nd.p us ws) (by rw [vplus_len hl, List.length_map]) (line_of (by rw [List.length_map]; omega)) rfl (fun _ _ => rfl) (fun i x y H1 N hi hx hy sm hN2 => ?_) (fun D H' hD sm e2 => ?_)
    · obtain ⟨rfl, hi1⟩ := vec_at hx
      obtain ⟨rfl, hi2⟩ := vec_at hy
      walk_at "go"
      refine ⟨p, nd, e, _, rfl, hN.mono sm, hp, ?_⟩
      have en : nth (vplus nd.p us ws) ((i : Nat) : Int) = (nth us (i : Nat) + nth ws (i : Nat)) % nd.p := nth_zip hi1 hi2
      rw [← en]
      exact hN2 _ (Same.refl _)
    · walk_at "go"
      refine w_tupL (Sq.lst e2) fun l hl2 => ?_
      walk_at "go"
      exact k _ _ (sm.trans (Same.new hl2)) ⟨l, rfl, Sq.tup upd_same⟩
def sp_Net_times (K : PySem.W.Frag) (C : Addr) : Sp := fun vs H Q _ => ∃ (p : Addr) (nd : NetD) (e v1 v2 : V) (M : Mat) (x : List Int), vs = [.ref p, v1, v2] ∧ IsNet K C H p nd e ∧ 0 < nd.p ∧ RMat K H v1 M ∧ RVecX K H v2 x ∧ (∀ r ∈ M, r.length = x.length ∧ Bd r) ∧ M.length ≤ 1000 ∧
  ∀ v' H', Same H H' → RVec false K H' v' (vtimes nd.p M x) → Q v' H'
theorem ok_Net_times (T : Txt K mg) : FnOk P w K mg base CX0 2 T.a_Net_times T.d_Net_times ["self", "matrix", "vector"] (sp_Net_times K T.c_Net) := by
  refine T.F_Net_times.ok sc_Net_times (fun vs H Q E h => ?_) (fun cdv A outer s H vs Q E hr h => ?_)
  · obtain ⟨_, _, _, _, _, _, _, rfl, _⟩ := h
    rfl
  · obtain ⟨p, nd, e, v1, v2, M, x, rfl, hN, hp, ⟨a1, xs, rfl, h1, hl1, hr1⟩, hx, hM, hz, k⟩ := h
    obtain ⟨dx, _, _, _, _, h0, _⟩ := id hN
    unfold netF at h0
    refine ⟨_, (pss_one (ps_ret (pe_callTy (k_tupS (K := K) rfl) (by rfl) T.z_tuple (by decide +kernel) (pa_cons (pe_lc (own := [("row", 3)]) (g := gName 3) (tt := tYes) rfl sc_Net_times.nd (k_seqS (K := K) rfl (pv 1)) (blkOk_by (own := [("row", 3)]) (by kernel_rfl)) (fun _ _ _ _ _ => (pg_name (i := 3) sc_Net_times.nd rfl (by first | exact Or.inl rfl | exact Or.inr rfl))) (fun _ _ _ _ _ => pts_nil) (fun _ _ _ _ _ => (pe_meth (pv 0) T.C_Net T.m_Net_rest (ok_Net_rest T) (hr.mono (by decide)) T.b_Net_rest .nil pass0 (pa_cons (pe_call (ok_product_sum T) (hr.mono (by decide)) (by rfl) T.g_product_sum T.F_product_sum.kp T.b_product_sum .nil pass0 (pa_cons (pv 3) (pa_cons (pv 2) pa_nil))) pa_nil)))) pa_nil)))), ?_⟩
    refine go_start (σ' := [some (.ref p), some (.ref a1), some v2, none]) rfl ?_
    try dsimp only [cxOf, Cx.nox, Cx.wish]
    walk_at "go"
    refine c_ints xs h1 (vtimes nd.p M x) (by rw [vtimes_len, hl1]) (line_of (by omega)) (fun _ => rfl) (fun i y H1 N hi hy sm hN2 => ?_) (fun D H' hD sm e2 => ?_)
    · have hd : M[i]? = some (M[i]'(by omega)) := List.getElem?_eq_getElem (by omega)
      obtain ⟨hm1, hm2⟩ := hM _ (List.mem_of_getElem? hd)
      walk_at "go"
      refine ⟨_, _, _, x, rfl, ⟨false, RVec.mono _ _ _ _ sm (hr1 i y _ hy hd)⟩, RVecX.mono _ _ _ _ sm hx, hm1, hm2, fun H2 s2 => ?_⟩
      refine ⟨p, nd, e, _, rfl, (hN.mono sm).mono s2, hp, ?_⟩
      rw [← nth_mapG (f := fun r => dot r x % nd.p) hd]
      exact hN2 _ s2
    · walk_at "go"
      refine w_tupL (Sq.lst e2) fun l hl2 => ?_
      walk_at "go"
      exact k _ _ (sm.trans (Same.new hl2)) ⟨l, rfl, Sq.tup upd_same⟩
def sp_Net_looked_at (K : PySem.W.Frag) (C : Addr) : Sp := fun vs H Q _ => ∃ (p : Addr) (nd : NetD) (e v1 v2 : V) (q : List Int) (prs : List PairD) (b : Bool), vs = [.ref p, v1, v2] ∧ IsNet K C H p nd e ∧ 0 < nd.p ∧ RVec false K H v1 q ∧ RSeq b K (RPr K) H v2 prs ∧ Bd q ∧ q.length ≤ 1000 ∧ prs.length ≤ 100000 ∧
  (∀ o ∈ prs, o.1.length = q.length ∧ o.2.length = q.length ∧ Bd o.2) ∧ ∀ v' H', Same H H' → RVec false K H' v' (looked nd.p q prs (zeros q)) → Q v' H'
theorem looked_take {p : Int} {q : List Int} {prs : List PairD} {f : List Int} {i : Nat} {o : PairD} (h : prs[i]? = some o) : looked p q (prs.take (i + 1)) f = vplus p (looked p q (prs.take i) f) (o.2.map fun n => dot q o.1 * n) := by
  unfold looked
  rw [List.take_add_one, h, List.foldl_append]
  rfl
theorem ok_Net_looked_at (T : Txt K mg) : FnOk P w K mg base CX0 3 T.a_Net_looked_at T.d_Net_looked_at ["self", "query", "pairs"] (sp_Net_looked_at K T.c_Net) := by
  refine T.F_Net_looked_at.ok sc_Net_looked_at (fun vs H Q E h => ?_) (fun cdv A outer s H vs Q E hr h => ?_)
  · obtain ⟨_, _, _, _, _, _, _, _, rfl, _⟩ := h
    rfl
  · obtain ⟨p, nd, e, v1, v2, q, prs, b, rfl, hN, hp, ⟨a1, rfl, h1⟩, ⟨a2, ys, rfl, h2, hl2, hr2⟩, hB, hz, hz2, ho, k⟩ := h
    refine ⟨_, (pss_cons (ps_set (i := 3) sc_Net_looked_at.nd rfl (Or.inl rfl) (pe_callTy (k_tupS (K := K) rfl) (by rfl) T.z_tuple (by decide +kernel) (pa_cons (pe_lc (own := [("_", 7)]) (g := gName 7) (tt := tYes) rfl sc_Net_looked_at.nd (k_seqS (K := K) rfl (pv 1)) (blkOk_by (own := [("_", 7)]) (by kernel_rfl)) (fun _ _ _ _ _ => (pg_name (i := 7) sc_Net_looked_at.nd rfl (by first | exact Or.inl rfl | exact Or.inr rfl))) (fun _ _ _ _ _ => pts_nil) (fun _ _ _ _ _ => pe_int)) pa_nil)))
      (pss_cons (ps_for PassesOwn.never rfl (k_seqS (K := K) rfl (pv 2)) (k_tup (K := K) rfl rfl (pgs_cons (pg_name (i := 4) sc_Net_looked_at.nd rfl (Or.inl rfl)) (pgs_cons (pg_name (i := 5) sc_Net_looked_at.nd rfl (Or.inl rfl)) pgs_nil)))
      (pss_cons (ps_set (i := 6) sc_Net_looked_at.nd rfl (Or.inr rfl) (pe_call (ok_product_sum T) (hr.mono (by decide)) (by rfl) T.g_product_sum T.F_product_sum.kp T.b_product_sum .nil pass0 (pa_cons (pv 1) (pa_cons (pv 4) pa_nil))))
      (pss_one (ps_set (i := 3) sc_Net_looked_at.nd rfl (Or.inl rfl) (pe_meth (pv 0) T.C_Net T.m_Net_plus (ok_Net_plus T) (hr.mono (by decide)) T.b_Net_plus .nil pass0 (pa_cons (pv 3) (pa_cons (pe_lc (own := [("number", 8)]) (g := gName 8) (tt := tYes) rfl sc_Net_looked_at.nd (k_seqS (K := K) rfl (pv 5)) (blkOk_by (own := [("number", 8)]) (by kernel_rfl)) (fun _ _ _ _ _ => (pg_name (i := 8) sc_Net_looked_at.nd rfl (by first | exact Or.inl rfl | exact Or.inr rfl))) (fun _ _ _ _ _ => pts_nil) (fun _ _ _ _ _ => (pe_op op_mul (pv 6) (pv 8)))) pa_nil)))))))
      (pss_one (ps_ret (pv 3))))), ?_⟩
    refine go_start (σ' := [some (.ref p), some (.ref a1), some (.ref a2), none, none, none, none, none, none]) rfl ?_
    try dsimp only [cxOf, Cx.nox, Cx.wish]
    walk_at "go"
    refine c_ints (q.map V.int) h1 (zeros q) (by rw [zeros_len, List.length_map]) (line_of (by rw [List.length_map]; omega)) (fun _ => rfl) (fun i y H1 N hi hy sm hN2 => ?_) (fun D H1 hD s1 e2 => ?_)
    · rw [List.length_map] at hi
      walk_at "go"
      have ez : nth (zeros q) ((i : Nat) : Int) = 0 := nth_map hi
      rw [← ez]
      exact hN2 _ (Same.refl _)
    walk_at "go"
    refine w_tupL (Sq.lst e2) fun l hl => ?_
    have s2 : Same H (upd H1 l (.tup ((zeros q).map V.int))) := s1.trans (Same.new hl)
    walk_at "go"
    refine l_seq (b := b) ys (fun i σ H' => ∃ (f : Addr) (y4 y5 y6 y7 y8 : Option V), σ = [some (.ref p), some (.ref a1), some (.ref a2), some (.ref f), y4, y5, y6, y7, y8] ∧ Sq false K H' f ((looked nd.p q (prs.take i) (zeros q)).map V.int) ∧ Same H H')
      (s2.sq h2) ⟨l, none, none, none, none, none, rfl, Sq.tup upd_same, s2⟩ (fun i σ H' _ ⟨_, _, _, _, _, _, _, _, sm⟩ => sm.sq h2) ?_ ?_
    · rintro i y σ H' hi hy ⟨f, y4, y5, y6, y7, y8, rfl, hf, sm⟩
      have hd : prs[i]? = some (prs[i]'(by omega)) := List.getElem?_eq_getElem (by omega)
      generalize prs[i]'(by omega) = o at hd
      obtain ⟨ho1, ho2, ho3⟩ := ho o (List.mem_of_getElem? hd)
      obtain ⟨ap, k1, k2, rfl, hp2, ⟨ak, rfl, hk⟩, ⟨av, rfl, hv⟩⟩ := RPr.mono _ _ _ _ sm (hr2 i y o hy hd)
      refine w_pair hp2 ?_
      walk_at "go"
      refine ⟨_, _, q, o.1, rfl, ⟨false, a1, rfl, sm.sq h1⟩, ⟨false, ak, rfl, hk⟩, ho1.symm, hB, fun H3 s3 => ?_⟩
      walk_at "go"
      obtain ⟨dx, _, _, _, _, h0, _⟩ := id ((hN.mono sm).mono s3)
      unfold netF at h0
      walk_at "go"
      refine c_ints (o.2.map V.int) (s3.sq hv) (o.2.map fun n => dot q o.1 * n) (by rw [List.length_map, List.length_map]) (line_of (by rw [List.length_map]; omega)) (fun _ => rfl) (fun j z H4 N hj hz4 s4 hN2 => ?_) (fun D4 H4 hD4 s4 e4 => ?_)
      · obtain ⟨rfl, hj1⟩ := vec_at hz4
        have hb := ho3 _ (nth_mem (ns := o.2) (i := ((j : Nat) : Int)) (by omega) (by omega))
        walk_at "go"
        rw [← nth_map (f := fun n => dot q o.1 * n) hj1]
        exact hN2 _ (Same.refl _)
      · have hll : (looked nd.p q (prs.take i) (zeros q)).length = q.length := by
          rw [looked_len, zeros_len]
          intro kv hk2
          rw [zeros_len]
          exact (ho kv (List.mem_of_mem_take hk2)).2.1
        walk_at "go"
        refine ⟨p, nd, e, _, _, _, _, rfl, ((hN.mono sm).mono s3).mono s4, hp, ⟨false, f, rfl, s4.sq (s3.sq hf)⟩, ⟨true, D4, rfl, Sq.lst e4⟩, by rw [hll, List.length_map, ho2], by omega, fun v' H5 s5 ⟨f5, e5, hf5⟩ => ?_⟩
        subst e5
        walk_at "go"
        refine ⟨f5, _, _, _, _, _, rfl, ?_, ((sm.trans s3).trans s4).trans s5⟩
        rw [looked_take hd]
        exact hf5
    · rintro σ H' ⟨f, y4, y5, y6, y7, y8, rfl, hf, sm⟩
      walk_at "go"
      refine k _ _ sm ⟨f, rfl, ?_⟩
      rw [show ys.length = prs.length from hl2, List.take_length] at hf
      exact hf
def sp_Net_is_letter (K : PySem.W.Frag) (C : Addr) : Sp := fun vs H Q _ => ∃ (p : Addr) (nd : NetD) (e : V) (l : Int), vs = [.ref p, .int l] ∧ IsNet K C H p nd e ∧ Q (.bl (decide (0 ≤ l ∧ l ≤ (nd.emb.length : Int) - 1))) H
theorem ok_Net_is_letter (T : Txt K mg) : FnOk P w K mg base CX0 2 T.a_Net_is_letter T.d_Net_is_letter ["self", "value"] (sp_Net_is_letter K T.c_Net) := by
  refine T.F_Net_is_letter.ok sc_Net_is_letter (fun vs H Q E h => ?_) (fun cdv A outer s H vs Q E hr h => ?_)
  · obtain ⟨_, _, _, _, rfl, _⟩ := h
    rfl
  · obtain ⟨p, nd, e, l, rfl, ⟨dx, v1, v2, v3, v4, h0, ⟨a1, xs, rfl, h1, hl1, _⟩, _⟩, k⟩ := h
    have cN := T.C_Net
    have n1 := T.n_Net_embed
    unfold netF at h0
    refine ⟨_, (pss_one (ps_ret (pe_call (ok_is_between T) (hr.mono (by decide)) (by rfl) T.g_is_between T.F_is_between.kp T.b_is_between .nil pass0 (pa_cons (pv 1) (pa_cons pe_int (pa_cons (pe_op op_sub (pe_callB (k_lenS (K := K) rfl) (by rfl) T.z_len (by decide +kernel) (pa_cons (k_fld (K := K) rfl (pv 0) rfl) pa_nil)) pe_int) pa_nil)))))), ?_⟩
    refine go_start (σ' := [some (.ref p), some (.int l)]) rfl ?_
    try dsimp only [cxOf, Cx.nox, Cx.wish]
    walk_at "go"
    exact ⟨_, _, _, _, rfl, .inl ⟨l, rfl, rfl⟩, by rw [hl1]; exact k⟩

/-! ### a row -/
theorem five_of {L : List Mat} (h : L.length = 5) : L = [mt L 0, mt L 1, mt L 2, mt L 3, mt L 4] := by
  match L, h with
  | [a, b, c, d, e], _ => rfl
theorem mat_bd {p : Int} {w : Nat} {M : Mat} (hp : p ≤ 97) (h : MatOk p w M) {x : List Int} (hx : x.length = w) : ∀ r ∈ M, r.length = x.length ∧ Bd r := fun r hr => ⟨by rw [(h r hr).1, hx], (h r hr).2.bd hp⟩
def sp_Net_row (K : PySem.W.Frag) (C : Addr) : Sp := fun vs H Q _ => ∃ (p : Addr) (nd : NetD) (e v : V) (b : Bool) (rows : List RowD) (l w : Nat), vs = [.ref p, v, .int (l : Nat)] ∧ IsNet K C H p nd e ∧ NetOk nd w ∧ RSeq b K (RRow K) H v rows ∧ (∀ r ∈ rows, RowOk nd w r) ∧ rows.length ≤ 1000 ∧ l < nd.emb.length ∧
  ∀ v' H', Same H H' → RRow K H' v' (rowD nd rows l) → Q v' H'
theorem ok_Net_row (T : Txt K mg) : FnOk P w K mg base CX0 4 T.a_Net_row T.d_Net_row ["self", "rows", "letter"] (sp_Net_row K T.c_Net) := by
  refine T.F_Net_row.ok sc_Net_row (fun vs H Q E h => ?_) (fun cdv A outer s H vs Q E hr h => ?_)
  · obtain ⟨_, _, _, _, _, _, _, _, rfl, _⟩ := h
    rfl
  · obtain ⟨p, nd, e, v, b, rows, l, wd, rfl, hN, ok, ⟨ar, rvs, rfl, hR, hRl, hRr⟩, hro, hrz, hl, k⟩ := h
    have cN := T.C_Net
    have n1 := T.n_Net_embed
    have n2 := T.n_Net_shift
    have n3 := T.n_Net_layers
    have n4 := T.n_Net_out
    have hp0 : 0 < nd.p := by have := ok.p2; omega
    have w4 := ok.w4
    obtain ⟨dx, v1, v2, v3, v4, h0, hE, ⟨ash, rfl, hSh⟩, hLay, hOut⟩ := id hN
    obtain ⟨ae, evs, rfl, hE1, hEl, hEr⟩ := hE
    obtain ⟨al, lvs, rfl, hL1, hLl, hLr⟩ := hLay
    obtain ⟨ao, ovs, rfl, hO1, hOl, hOr⟩ := hOut
    unfold netF at h0
    refine ⟨_, (pss_cons (ps_if (pt_not (k_tru (K := K) rfl (pe_meth (pv 0) T.C_Net T.m_Net_is_letter (ok_Net_is_letter T) (hr.mono (by decide)) T.b_Net_is_letter .nil pass0 (pa_cons (pv 2) pa_nil)) (by intro _; rfl))) (pss_one ps_never) pss_nil)
      (pss_cons (ps_set (i := 3) sc_Net_row.nd rfl (Or.inr rfl) (pe_meth (pv 0) T.C_Net T.m_Net_plus (ok_Net_plus T) (hr.mono (by decide)) T.b_Net_plus .nil pass0 (pa_cons (pe_ix (k_ix (K := K) rfl) (k_fld (K := K) rfl (pv 0) rfl) (pv 2) (fun _ _ => rfl)) (pa_cons (pe_lc (own := [("number", 15)]) (g := gName 15) (tt := tYes) rfl sc_Net_row.nd (k_seqS (K := K) rfl (k_fld (K := K) rfl (pv 0) rfl)) (blkOk_by (own := [("number", 15)]) (by kernel_rfl)) (fun _ _ _ _ _ => (pg_name (i := 15) sc_Net_row.nd rfl (by first | exact Or.inl rfl | exact Or.inr rfl))) (fun _ _ _ _ _ => pts_nil) (fun _ _ _ _ _ => (pe_op op_mul (pe_callB (k_lenS (K := K) rfl) (by rfl) T.z_len (by decide +kernel) (pa_cons (pv 1) pa_nil)) (pv 15)))) pa_nil))))
      (pss_cons (ps_set (i := 4) sc_Net_row.nd rfl (Or.inl rfl) (pe_lst pa_nil))
      (pss_cons (ps_for PassesOwn.never rfl (k_enumS (K := K) rfl (by rfl) T.z_enumerate (pa_cons (k_fld (K := K) rfl (pv 0) rfl) pa_nil)) (k_tup (K := K) rfl rfl (pgs_cons (pg_name (i := 5) sc_Net_row.nd rfl (Or.inr rfl)) (pgs_cons (k_tup (K := K) rfl rfl (pgs_cons (pg_name (i := 6) sc_Net_row.nd rfl (Or.inl rfl)) (pgs_cons (pg_name (i := 7) sc_Net_row.nd rfl (Or.inl rfl)) (pgs_cons (pg_name (i := 8) sc_Net_row.nd rfl (Or.inl rfl)) (pgs_cons (pg_name (i := 9) sc_Net_row.nd rfl (Or.inl rfl)) (pgs_cons (pg_name (i := 10) sc_Net_row.nd rfl (Or.inl rfl)) pgs_nil)))))) pgs_nil)))
      (pss_cons (ps_set (i := 11) sc_Net_row.nd rfl (Or.inl rfl) (pe_tup (pa_cons (pe_meth (pv 0) T.C_Net T.m_Net_times (ok_Net_times T) (hr.mono (by decide)) T.b_Net_times .nil pass0 (pa_cons (pv 7) (pa_cons (pv 3) pa_nil))) (pa_cons (pe_meth (pv 0) T.C_Net T.m_Net_times (ok_Net_times T) (hr.mono (by decide)) T.b_Net_times .nil pass0 (pa_cons (pv 8) (pa_cons (pv 3) pa_nil))) pa_nil))))
      (pss_cons (ps_set (i := 12) sc_Net_row.nd rfl (Or.inl rfl) (pe_op (k_addG (K := K) rfl) (pe_lc (own := [("row", 16)]) (g := gName 16) (tt := tYes) rfl sc_Net_row.nd (k_seqS (K := K) rfl (pv 1)) (blkOk_by (own := [("row", 16)]) (by kernel_rfl)) (fun _ _ _ _ _ => (pg_name (i := 16) sc_Net_row.nd rfl (by first | exact Or.inl rfl | exact Or.inr rfl))) (fun _ _ _ _ _ => pts_nil) (fun _ _ _ _ _ => (pe_ix (k_ix (K := K) rfl) (pe_ix (k_ix (K := K) rfl) (pv 16) pe_int (fun _ _ => rfl)) (pv 5) (fun _ _ => rfl)))) (pe_lst (pa_cons (pv 11) pa_nil))))
      (pss_cons (ps_set (i := 3) sc_Net_row.nd rfl (Or.inr rfl) (pe_meth (pv 0) T.C_Net T.m_Net_plus (ok_Net_plus T) (hr.mono (by decide)) T.b_Net_plus .nil pass0 (pa_cons (pv 3) (pa_cons (pe_meth (pv 0) T.C_Net T.m_Net_looked_at (ok_Net_looked_at T) (hr.mono (by decide)) T.b_Net_looked_at .nil pass0 (pa_cons (pe_meth (pv 0) T.C_Net T.m_Net_times (ok_Net_times T) (hr.mono (by decide)) T.b_Net_times .nil pass0 (pa_cons (pv 6) (pa_cons (pv 3) pa_nil))) (pa_cons (pv 12) pa_nil))) pa_nil))))
      (pss_cons (ps_set (i := 3) sc_Net_row.nd rfl (Or.inr rfl) (pe_meth (pv 0) T.C_Net T.m_Net_plus (ok_Net_plus T) (hr.mono (by decide)) T.b_Net_plus .nil pass0 (pa_cons (pv 3) (pa_cons (pe_meth (pv 0) T.C_Net T.m_Net_times (ok_Net_times T) (hr.mono (by decide)) T.b_Net_times .nil pass0 (pa_cons (pv 10) (pa_cons (pe_lc (own := [("number", 15)]) (g := gName 15) (tt := tYes) rfl sc_Net_row.nd (k_seqS (K := K) rfl (pe_meth (pv 0) T.C_Net T.m_Net_times (ok_Net_times T) (hr.mono (by decide)) T.b_Net_times .nil pass0 (pa_cons (pv 9) (pa_cons (pv 3) pa_nil)))) (blkOk_by (own := [("number", 15)]) (by kernel_rfl)) (fun _ _ _ _ _ => (pg_name (i := 15) sc_Net_row.nd rfl (by first | exact Or.inl rfl | exact Or.inr rfl))) (fun _ _ _ _ _ => pts_nil) (fun _ _ _ _ _ => (pe_op op_mul (pv 15) (pv 15)))) pa_nil))) pa_nil))))
      (pss_one (ps_expr (k_bm (K := K) rfl PySem.F.plainAttrs_list PySem.F.slot_list_append PySem.F.type_list_append mt_append (pv 4) (pa_cons (pv 11) pa_nil)))))))))
      (pss_cons (ps_setLc (i := 13) (own := [("vector", 14)]) (g := gName 14) (tt := tYes) rfl sc_Net_row.nd rfl rfl (sw_true rfl rfl rfl (by decide +kernel)) (k_seqS (K := K) rfl (k_fld (K := K) rfl (pv 0) rfl)) (blkOk_by (own := [("vector", 14)]) (by kernel_rfl)) (fun _ _ _ _ _ => (pg_name (i := 14) sc_Net_row.nd rfl (by first | exact Or.inl rfl | exact Or.inr rfl))) (fun _ _ _ _ _ => pts_nil) (fun _ _ _ _ _ => (pe_op (k_addG (K := K) rfl) pe_int (pe_meth (pv 0) T.C_Net T.m_Net_rest (ok_Net_rest T) (hr.mono (by decide)) T.b_Net_rest .nil pass0 (pa_cons (pe_call (ok_product_sum T) (hr.mono (by decide)) (by rfl) T.g_product_sum T.F_product_sum.kp T.b_product_sum .nil pass0 (pa_cons (pv 14) (pa_cons (pv 3) pa_nil))) pa_nil)))))
      (pss_one (ps_ret (pe_tup (pa_cons (pe_callTy (k_tupS (K := K) rfl) (by rfl) T.z_tuple (by decide +kernel) (pa_cons (pv 4) pa_nil)) (pa_cons (pe_callTy (k_tupS (K := K) rfl) (by rfl) T.z_tuple (by decide +kernel) (pa_cons (pv 13) pa_nil)) pa_nil)))))))))), ?_⟩
    refine go_start (σ' := [some (.ref p), some (.ref ar), some (.int (l : Nat)), none, none, none, none, none, none, none, none, none, none, none, none, none, none]) rfl ?_
    walk_at "go"
    refine ⟨p, nd, e, _, rfl, hN, ?_⟩
    walk_at "go"
    refine w_iteN (fun hc => absurd (show 0 ≤ ((l : Nat) : Int) ∧ ((l : Nat) : Int) ≤ (nd.emb.length : Int) - 1 by omega) hc) (fun _ => ?_)
    walk_at "go"
    have hel : nd.emb[l]? = some (nd.emb.getD l []) := by
      rw [List.getD_eq_getElem?_getD, List.getElem?_eq_getElem hl]
      rfl
    obtain ⟨ye, hye, ⟨aye, rfl, hye2⟩⟩ := RSeq.get hEl hEr hel
    have hew : (nd.emb.getD l []).length = wd := (ok.emb _ (List.mem_of_getElem? hel)).1
    refine w_ix hE1 (atI_nat hye) ?_
    walk_at "go"
    refine c_ints (nd.sh.map V.int) hSh (nd.sh.map fun n => (rows.length : Int) * n) (by rw [List.length_map, List.length_map]) (line_of (by rw [List.length_map, ok.sh.1]; omega)) (fun _ => rfl) (fun i y H1 N hi hy sm hN2 => ?_) (fun D H1 hD s1 e1 => ?_)
    · obtain ⟨rfl, hi1⟩ := vec_at hy
      have hb := ok.sh.2.bd ok.p97 _ (nth_mem (ns := nd.sh) (i := ((i : Nat) : Int)) (by omega) (by omega))
      walk_at "go"
      rw [hRl, ← nth_map (f := fun n => (rows.length : Int) * n) hi1]
      exact hN2 _ (Same.refl _)
    walk_at "go"
    refine ⟨p, nd, e, _, _, _, _, rfl, hN.mono s1, hp0, ⟨false, aye, rfl, s1.sq hye2⟩, ⟨true, D, rfl, Sq.lst e1⟩, by rw [hew, List.length_map, ok.sh.1], by omega, fun v' H2 s2 ⟨ax, ev, hx⟩ => ?_⟩
    subst ev
    walk_at "go"
    refine ⟨Nat.zero_le _, fun ol hol => ?_⟩
    have s12 := s1.trans s2
    have hx0 := startX_ok ok (rows := rows) hl
    have hxs : startX nd rows l = vplus nd.p (nd.emb.getD l []) (nd.sh.map fun n => (rows.length : Int) * n) := rfl
    walk_at "go"
    refine l_enum (b := false) lvs (fun i σ H' => ∃ (ax : Addr) (y5 y6 y7 y8 y9 y10 y11 y12 y13 y14 y15 y16 : Option V), σ = [some (.ref p), some (.ref ar), some (.int (l : Nat)), some (.ref ax), some (.ref ol), y5, y6, y7, y8, y9, y10, y11, y12, y13, y14, y15, y16] ∧
        RVec false K H' (.ref ax) (rowSt nd rows (startX nd rows l) i).2 ∧ Filled (RPr K) H2 H' ol (rowSt nd rows (startX nd rows l) i).1)
      ((s12.trans (Same.new hol)).sq hL1) ⟨ax, none, none, none, none, none, none, none, none, none, none, none, none, rfl, RVec.mono _ _ _ _ (Same.new hol) ⟨ax, rfl, by rw [show (rowSt nd rows (startX nd rows l) 0).2 = startX nd rows l from rfl, hxs]; exact hx⟩, Filled.nil hol⟩ ?_ ?_ ?_
    · rintro i σ H' hi ⟨_, _, _, _, _, _, _, _, _, _, _, _, _, _, _, f⟩
      exact (s12.trans f.same).sq hL1
    · rintro i y T' σ H' hi hy ⟨ax, y5, y6, y7, y8, y9, y10, y11, y12, y13, y14, y15, y16, rfl, hxv, f⟩ hT
      have hi' : i < nd.lay.length := by omega
      have hL : nd.lay[i]? = some (nd.lay.getD i []) := by
        rw [List.getD_eq_getElem?_getD, List.getElem?_eq_getElem hi']
        rfl
      generalize eL : nd.lay.getD i [] = L at hL
      obtain ⟨hL5, hLm⟩ := ok.lay L (List.mem_of_getElem? hL)
      obtain ⟨st1, st2, st3, st4⟩ := rowSt_ok ok hro hx0 i (by omega)
      generalize ex : (rowSt nd rows (startX nd rows l) i).2 = x at hxv st3 st4
      have sT : Same H' (upd H' T' (.tup [.int (i : Int), y])) := Same.new hT
      have f := f.mono RPr.mono sT
      have hxv := RVec.mono _ _ _ _ sT hxv
      have s3 := s12.trans f.same
      have hy5 := RSeq.mono RMat.mono _ _ _ _ s3 (hLr i y L hy hL)
      rw [five_of hL5] at hy5
      obtain ⟨a5, q0, q1, q2, q3, q4, rfl, h5, m0, m1, m2, m3, m4⟩ := RSeq.five hy5
      refine w_pairG (Sq.tup upd_same) ?_
      refine w_five h5 ?_
      have hM : ∀ j : Nat, j < 5 → (mt L j).length = wd ∧ MatOk nd.p wd (mt L j) := fun j hj => (mt_ok ⟨hL5, hLm⟩ hj).2
      have p97 := ok.p97
      -- pair
      walk_at "go"
      refine ⟨p, nd, e, _, _, _, x, rfl, hN.mono s3, hp0, m1, ⟨false, hxv⟩, mat_bd p97 (hM 1 (by omega)).2 st3, by rw [(hM 1 (by omega)).1]; omega, fun vk H4 s4 rk => ?_⟩
      walk_at "go"
      refine ⟨p, nd, e, _, _, _, x, rfl, (hN.mono s3).mono s4, hp0, RMat.mono _ _ _ _ s4 m2, ⟨false, RVec.mono _ _ _ _ s4 hxv⟩, mat_bd p97 (hM 2 (by omega)).2 st3, by rw [(hM 2 (by omega)).1]; omega, fun vv H5 s5 rv => ?_⟩
      walk_at "go"
      refine ⟨(by show 2 ≤ sizeLine; decide), fun ap hap => ?_⟩
      walk_at "go"
      have s6 : Same H5 (upd H5 ap (.tup [vk, vv])) := Same.new hap
      have hpair : RPr K (upd H5 ap (.tup [vk, vv])) (.ref ap) (pairOf nd.p L x) := ⟨ap, vk, vv, rfl, Sq.tup upd_same, RVec.mono _ _ _ _ (s5.trans s6) rk, RVec.mono _ _ _ _ s6 rv⟩
      have s36 := (s4.trans s5).trans s6
      generalize upd H5 ap (.tup [vk, vv]) = H6 at s6 hpair s36 ⊢
      have f6 := f.mono RPr.mono s36
      have s06 := s3.trans s36
      -- pairs
      refine c_rep (R := RPr K) RPr.mono RPr.tup rvs (s06.sq hR) (prsAt rows i) (by unfold prsAt; rw [List.length_map, hRl]) (line_of (by omega)) (fun _ => rfl) (fun j z d H7 N hj hz hd s7 hN2 => ?_) (fun D7 H7 ys hD7 s7 e7 hyl hyr => ?_)
      · have hrj : rows[j]? = some (rows[j]'(by omega)) := List.getElem?_eq_getElem (by omega)
        generalize rows[j]'(by omega) = r at hrj
        have ed : d = r.1.getD i ([], []) := by
          unfold prsAt at hd
          rw [List.getElem?_map, hrj] at hd
          exact (Option.some.inj hd).symm
        obtain ⟨az, z1, z2, rfl, hz1, ⟨ap1, pvs, rfl, hp1, hpl, hpr⟩, _⟩ := RRow.mono _ _ _ _ (s06.trans s7) (hRr j z r hz hrj)
        have hr1 : r.1[i]? = some (r.1.getD i ([], [])) := by
          rw [List.getD_eq_getElem?_getD, List.getElem?_eq_getElem (by rw [(hro r (List.mem_of_getElem? hrj)).1]; exact hi')]
          rfl
        obtain ⟨yp, hyp, rp⟩ := RSeq.get hpl hpr hr1
        walk_at "go"
        refine w_ix hz1 (atI_nat (j := 0) rfl) ?_
        walk_at "go"
        refine w_ix hp1 (atI_nat hyp) ?_
        exact hN2 _ _ (Same.refl _) (by rw [ed]; exact rp)
      walk_at "go"
      refine ⟨(by show 1 ≤ sizeLine; decide), fun b1 hb1 => ?_⟩
      have s8 := s7.trans (Same.new (o := .lst [.ref ap]) hb1)
      have hlen7 : ys.length = rows.length := by rw [hyl]; exact List.length_map ..
      refine w_catLL (Same.at (Same.new hb1) e7) upd_same (by rw [sizeLine_eq]; simp only [List.length_cons, List.length_nil]; omega) fun b2 hb2 => ?_
      walk_at "go"
      have s9 := s8.trans (Same.new (o := .lst (ys ++ [.ref ap])) hb2)
      have hprs : RSeq true K (RPr K) (upd (upd H7 b1 (.lst [.ref ap])) b2 (.lst (ys ++ [.ref ap]))) (.ref b2) (prsAt rows i ++ [pairOf nd.p L x]) := by
        refine ⟨b2, _, rfl, Sq.lst upd_same, by rw [List.length_append, List.length_append, hyl]; rfl, fun j y' d' h1 h2 => ?_⟩
        by_cases hj : j < ys.length
        · rw [List.getElem?_append_left hj] at h1
          rw [List.getElem?_append_left (by omega)] at h2
          exact RPr.mono _ _ _ _ ((Same.new hb1).trans (Same.new hb2)) (hyr j y' d' h1 h2)
        · have h3 := (List.getElem?_eq_some_iff.mp h1).1
          rw [List.length_append] at h3
          have ej : j = ys.length := by
            have : j < ys.length + 1 := h3
            omega
          subst ej
          rw [List.getElem?_append_right (Nat.le_refl _), Nat.sub_self] at h1
          rw [hyl, List.getElem?_append_right (Nat.le_refl _), Nat.sub_self] at h2
          cases h1
          cases h2
          exact RPr.mono _ _ _ _ s9 hpair
      generalize upd (upd H7 b1 (.lst [.ref ap])) b2 (.lst (ys ++ [.ref ap])) = H9 at s9 hprs ⊢
      have s39 := s36.trans s9
      have s09 := s3.trans s39
      have f9 := f6.mono RPr.mono s9
      have hx9 := RVec.mono _ _ _ _ s39 hxv
      have hprok := prsAt_ok hro (i := i) hi'
      have hpo := pairOf_ok (x := x) hp0 ⟨hL5, hLm⟩
      -- x = plus(x, looked_at(times(query, x), pairs))
      refine ⟨p, nd, e, _, _, _, x, rfl, hN.mono s09, hp0, RMat.mono _ _ _ _ s39 m0, ⟨false, hx9⟩, mat_bd p97 (hM 0 (by omega)).2 st3, by rw [(hM 0 (by omega)).1]; omega, fun vq H10 s10 rq => ?_⟩
      walk_at "go"
      refine ⟨p, nd, e, _, _, _, _, true, rfl, (hN.mono s09).mono s10, hp0, rq, RSeq.mono RPr.mono _ _ _ _ s10 hprs, (vtimes_sml hp0 _ _).bd p97, by rw [vtimes_len, (hM 0 (by omega)).1]; omega, by rw [List.length_append]; unfold prsAt; rw [List.length_map]; simp only [List.length_cons, List.length_nil]; omega, fun o ho => ?_, fun vl H11 s11 rl => ?_⟩
      · rw [vtimes_len, (hM 0 (by omega)).1]
        rcases List.mem_append.mp ho with h | h
        · exact ⟨(hprok o h).1.1, (hprok o h).2.1, (hprok o h).2.2.bd p97⟩
        · rw [List.mem_singleton.mp h]; exact ⟨hpo.1.1, hpo.2.1, hpo.2.2.bd p97⟩
      walk_at "go"
      have hmid : (looked nd.p (vtimes nd.p (mt L 0) x) (prsAt rows i ++ [pairOf nd.p L x]) (zeros (vtimes nd.p (mt L 0) x))).length = wd := by
        rw [looked_len, zeros_len, vtimes_len, (hM 0 (by omega)).1]
        intro kv hk
        rw [zeros_len, vtimes_len, (hM 0 (by omega)).1]
        rcases List.mem_append.mp hk with h | h
        · exact (hprok kv h).2.1
        · rw [List.mem_singleton.mp h]; exact hpo.2.1
      have s911 := s10.trans s11
      refine ⟨p, nd, e, _, _, _, _, rfl, (hN.mono s09).mono s911, hp0, ⟨false, RVec.mono _ _ _ _ s911 hx9⟩, ⟨false, rl⟩, by rw [st3, hmid], by omega, fun vm H12 s12' rm => ?_⟩
      walk_at "go"
      have rm : RVec false K H12 vm (midOf nd.p L (prsAt rows i) x) := rm
      have hml := midOf_len (x := x) hp0 ⟨hL5, hLm⟩ hprok st3
      have s912 := s911.trans s12'
      have s012 := s09.trans s912
      have s312 := s39.trans s912
      -- x = plus(x, times(second, [number * number for number in times(first, x)]))
      refine ⟨p, nd, e, _, _, _, _, rfl, hN.mono s012, hp0, RMat.mono _ _ _ _ s312 m3, ⟨false, rm⟩, mat_bd p97 (hM 3 (by omega)).2 hml, by rw [(hM 3 (by omega)).1]; omega, fun vf H13 s13 rf => ?_⟩
      walk_at "go"
      obtain ⟨af, rfl, hf2⟩ := rf
      refine c_ints ((vtimes nd.p (mt L 3) (midOf nd.p L (prsAt rows i) x)).map V.int) hf2 (sqOf nd.p L (midOf nd.p L (prsAt rows i) x)) (by unfold sqOf; rw [List.length_map, List.length_map]) (line_of (by rw [List.length_map, vtimes_len, (hM 3 (by omega)).1]; omega)) (fun _ => rfl) (fun j z H14 N hj hz s14 hN2 => ?_) (fun D14 H14 hD14 s14 e14 => ?_)
      · obtain ⟨rfl, hj1⟩ := vec_at hz
        have hb := (vtimes_sml (p := nd.p) hp0 (mt L 3) (midOf nd.p L (prsAt rows i) x)).bd p97 _ (nth_mem (i := ((j : Nat) : Int)) (by omega) (by omega))
        walk_at "go"
        have en : nth (sqOf nd.p L (midOf nd.p L (prsAt rows i) x)) ((j : Nat) : Int) = nth (vtimes nd.p (mt L 3) (midOf nd.p L (prsAt rows i) x)) (j : Nat) * nth (vtimes nd.p (mt L 3) (midOf nd.p L (prsAt rows i) x)) (j : Nat) := nth_map (f := fun a => a * a) hj1
        rw [← en]
        exact hN2 _ (Same.refl _)
      walk_at "go"
      have hsl : (sqOf nd.p L (midOf nd.p L (prsAt rows i) x)).length = wd := by unfold sqOf; rw [List.length_map, vtimes_len, (hM 3 (by omega)).1]
      have s1214 := s13.trans s14
      refine ⟨p, nd, e, _, _, _, _, rfl, (hN.mono s012).mono s1214, hp0, RMat.mono _ _ _ _ (s312.trans s1214) m4, ⟨true, D14, rfl, Sq.lst e14⟩, mat_bd p97 (hM 4 (by omega)).2 hsl, by rw [(hM 4 (by omega)).1]; omega, fun vt H15 s15 rt => ?_⟩
      walk_at "go"
      have s1215 := s1214.trans s15
      refine ⟨p, nd, e, _, _, _, _, rfl, (hN.mono s012).mono s1215, hp0, ⟨false, RVec.mono _ _ _ _ s1215 rm⟩, ⟨false, rt⟩, by rw [hml, vtimes_len, (hM 4 (by omega)).1], by omega, fun vz H16 s16 rz => ?_⟩
      walk_at "go"
      have s1216 := s1215.trans s16
      have f16 := (f9.mono RPr.mono s912).mono RPr.mono s1216
      have hp16 : RPr K H16 (.ref ap) (pairOf nd.p L x) := RPr.mono _ _ _ _ ((s9.trans s912).trans s1216) hpair
      obtain ⟨ys16, e16, hl16, _⟩ := f16.at_
      obtain ⟨ys', e', hl', fp⟩ := f16.push (RPr.tup _ _ _ _ (NTup.lst e16) hp16)
      have eys : ys' = ys16 := by
        rw [e16] at e'
        cases e'
        rfl
      subst eys
      refine w_tyL (Sq.lst e16) ?_
      walk_at "go"
      refine w_append e16 (line_of (by rw [hl16, st1]; have := ok.l3; omega)) ?_
      walk_at "go"
      obtain ⟨az, rfl, hz16⟩ := rz
      refine ⟨az, _, _, _, _, _, _, _, _, _, _, _, _, rfl, ?_, ?_⟩
      · have h1 : (rowSt nd rows (startX nd rows l) (i + 1)).2 = nextOf nd.p L (prsAt rows i) x := by
          show nextOf nd.p (nd.lay.getD i []) (prsAt rows i) (rowSt nd rows (startX nd rows l) i).2 = _
          rw [eL, ex]
        rw [h1]
        exact RTup.upd RVec.tup RVec.mono (NTup.lst e16) ⟨az, rfl, hz16⟩
      · have h1 : (rowSt nd rows (startX nd rows l) (i + 1)).1 = (rowSt nd rows (startX nd rows l) i).1 ++ [pairOf nd.p L x] := by
          show (rowSt nd rows (startX nd rows l) i).1 ++ [pairOf nd.p (nd.lay.getD i []) (rowSt nd rows (startX nd rows l) i).2] = _
          rw [eL, ex]
        rw [h1]
        exact fp
    · rintro σ H' ⟨ax, y5, y6, y7, y8, y9, y10, y11, y12, y13, y14, y15, y16, rfl, hxv, f⟩
      rw [hLl] at hxv f
      obtain ⟨st1, st2, st3, st4⟩ := rowSt_ok ok hro hx0 nd.lay.length (Nat.le_refl _)
      have s3 := s12.trans f.same
      walk_at "go"
      have e3 : (lastSt nd rows l).2 = (rowSt nd rows (startX nd rows l) nd.lay.length).2 := rfl
      rw [← e3] at hxv st3
      refine c_ints ovs (s3.sq hO1) (rowD nd rows l).2 (by show (nd.out.map _).length = _; rw [List.length_map, hOl]) (line_of (by have := ok.o12; omega)) (fun _ => rfl) (fun j y H4 N hj hy s4 hN2 => ?_) (fun D4 H4 hD4 s4 e4 => ?_)
      · have hd : nd.out[j]? = some (nd.out[j]'(by omega)) := List.getElem?_eq_getElem (by omega)
        have ho := ok.out _ (List.mem_of_getElem? hd)
        walk_at "go"
        refine ⟨_, _, _, _, rfl, ⟨false, RVec.mono _ _ _ _ (s3.trans s4) (hOr j y _ hy hd)⟩, ⟨false, RVec.mono _ _ _ _ s4 hxv⟩, by rw [ho.1, st3], ho.2.bd ok.p97, fun H5 s5 => ?_⟩
        refine ⟨p, nd, e, _, rfl, (hN.mono (s3.trans s4)).mono s5, hp0, ?_⟩
        walk_at "go"
        have en : nth (rowD nd rows l).2 ((j : Nat) : Int) = 1 + dot (nd.out[j]'(by omega)) (lastSt nd rows l).2 % nd.p := nth_mapG (f := fun v => 1 + dot v (lastSt nd rows l).2 % nd.p) hd
        rw [← en]
        exact hN2 _ s5
      walk_at "go"
      have f4 := f.mono RPr.mono s4
      obtain ⟨a4, ys4, e4', hS4, hl4, hr4⟩ := f4.seq RPr.mono (K := K)
      cases e4'
      refine w_tupL hS4 fun t1 ht1 => ?_
      walk_at "go"
      have s5 : Same H4 (upd H4 t1 (.tup ys4)) := Same.new ht1
      refine w_tupL (Sq.lst (s5 _ _ e4)) fun t2 ht2 => ?_
      walk_at "go"
      have s6 : Same (upd H4 t1 (.tup ys4)) (upd (upd H4 t1 (.tup ys4)) t2 (.tup ((rowD nd rows l).2.map V.int))) := Same.new ht2
      refine ⟨(by show 2 ≤ sizeLine; decide), fun t3 ht3 => ?_⟩
      walk_at "go"
      have s7 := Same.new (o := .tup [.ref t1, .ref t2]) ht3
      refine k _ _ (((s3.trans s4).trans (s5.trans s6)).trans s7) ⟨t3, .ref t1, .ref t2, rfl, Sq.tup upd_same, ⟨t1, ys4, rfl, ((s6.trans s7).sq (Sq.tup upd_same)), hl4, fun i y d h1 h2 => RPr.mono _ _ _ _ ((s5.trans s6).trans s7) (hr4 i y d h1 h2)⟩, ⟨t2, rfl, s7.sq (Sq.tup upd_same)⟩⟩

/-! ### rows of letters, a net made -/
theorem rowsD_snoc (nd : NetD) (l : Nat) : ∀ (ls : List Nat) (acc : List RowD), rowsD nd (ls ++ [l]) acc = rowsD nd ls acc ++ [rowD nd (rowsD nd ls acc) l]
  | [], acc => rfl
  | a :: r, acc => rowsD_snoc nd l r (acc ++ [rowD nd acc a])
theorem rowsD_len (nd : NetD) : ∀ (ls : List Nat) (acc : List RowD), (rowsD nd ls acc).length = acc.length + ls.length
  | [], acc => rfl
  | a :: r, acc => by
    show (rowsD nd r (acc ++ [rowD nd acc a])).length = acc.length + (r.length + 1)
    rw [rowsD_len nd r, List.length_append, List.length_singleton]
    omega
theorem rowsD_ok {nd : NetD} {w : Nat} (ok : NetOk nd w) : ∀ (ls : List Nat) (acc : List RowD), (∀ l ∈ ls, l < nd.emb.length) → (∀ r ∈ acc, RowOk nd w r) → ∀ r ∈ rowsD nd ls acc, RowOk nd w r
  | [], acc, _, h => h
  | a :: r, acc, hl, h => rowsD_ok ok r _ (fun l hm => hl l (List.mem_cons_of_mem _ hm)) fun x hx => by
    rcases List.mem_append.mp hx with h1 | h1
    · exact h x h1
    · rw [List.mem_singleton.mp h1]; exact rowD_ok ok h (hl a (List.mem_cons_self ..))
def natI (ls : List Nat) : List Int := ls.map fun l => ((l : Nat) : Int)
theorem natI_len (ls : List Nat) : (natI ls).length = ls.length := List.length_map ..
theorem natI_at {ls : List Nat} {i : Nat} {y : V} (h : ((natI ls).map V.int)[i]? = some y) : ∃ l, ls[i]? = some l ∧ y = .int (l : Nat) := by
  rw [natI, List.map_map, List.getElem?_map] at h
  cases e : ls[i]? with
  | none => rw [e] at h; cases h
  | some l => rw [e] at h; exact ⟨l, rfl, (Option.some.inj h).symm⟩

def sp_rows_of (K : PySem.W.Frag) (C : Addr) : Sp := fun vs H Q _ => ∃ (p : Addr) (nd : NetD) (e v : V) (w : Nat) (ls : List Nat), vs = [.ref p, v] ∧ IsNet K C H p nd e ∧ NetOk nd w ∧ RVecX K H v (natI ls) ∧ (∀ l ∈ ls, l < nd.emb.length) ∧ ls.length ≤ 1000 ∧
  ∀ v' H', Same H H' → RSeq false K (RRow K) H' v' (rowsD nd ls []) → Q v' H'
theorem ok_rows_of (T : Txt K mg) : FnOk P w K mg base CX0 5 T.a_rows_of T.d_rows_of ["net", "letters"] (sp_rows_of K T.c_Net) := by
  refine T.F_rows_of.ok sc_rows_of (fun vs H Q E h => ?_) (fun cdv A outer s H vs Q E hr h => ?_)
  · obtain ⟨_, _, _, _, _, _, rfl, _⟩ := h
    rfl
  · obtain ⟨p, nd, e, v, wd, ls, rfl, hN, ok, ⟨b, a, rfl, hS⟩, hls, hz, k⟩ := h
    refine ⟨_, (pss_cons (ps_set (i := 2) sc_rows_of.nd rfl (Or.inl rfl) (pe_lst pa_nil))
      (pss_cons (ps_for PassesOwn.never rfl (k_seqS (K := K) rfl (pv 1)) (pg_name (i := 3) sc_rows_of.nd rfl (Or.inl rfl))
      (pss_one (ps_expr (k_bm (K := K) rfl PySem.F.plainAttrs_list PySem.F.slot_list_append PySem.F.type_list_append mt_append (pv 2) (pa_cons (pe_meth (pv 0) T.C_Net T.m_Net_row (ok_Net_row T) (hr.mono (by decide)) T.b_Net_row .nil pass0 (pa_cons (pv 2) (pa_cons (pv 3) pa_nil))) pa_nil)))))
      (pss_one (ps_ret (pe_callTy (k_tupS (K := K) rfl) (by rfl) T.z_tuple (by decide +kernel) (pa_cons (pv 2) pa_nil)))))), ?_⟩
    refine go_start (σ' := [some (.ref p), some (.ref a), none, none]) rfl ?_
    walk_at "go"
    refine ⟨Nat.zero_le _, fun ol hol => ?_⟩
    walk_at "go"
    refine l_seq (b := b) ((natI ls).map V.int) (fun i σ H' => ∃ y3 : Option V, σ = [some (.ref p), some (.ref a), some (.ref ol), y3] ∧ Filled (RRow K) H H' ol (rowsD nd (ls.take i) []))
      ((Same.new hol).sq hS) ⟨none, rfl, Filled.nil hol⟩ (fun i σ H' _ ⟨_, _, f⟩ => f.same.sq hS) ?_ ?_
    · rintro i x σ H' hi hx ⟨y3, rfl, f⟩
      obtain ⟨l, hl, rfl⟩ := natI_at hx
      have hli : i < ls.length := (List.getElem?_eq_some_iff.mp hl).1
      obtain ⟨dx, _, _, _, _, h0, _⟩ := id (hN.mono f.same)
      unfold netF at h0
      obtain ⟨ys, e1, hl1, _⟩ := f.at_
      have hlen : (rowsD nd (ls.take i) []).length = i := by rw [rowsD_len, List.length_take]; simp only [List.length_nil]; omega
      walk_at "go"
      refine ⟨p, nd, e, _, true, rowsD nd (ls.take i) [], l, wd, rfl, hN.mono f.same, ok, f.seq RRow.mono, rowsD_ok ok _ _ (fun l' hm => hls l' (List.mem_of_mem_take hm)) (List.forall_mem_nil _), by rw [hlen]; omega, hls l (List.mem_of_getElem? hl), fun v' H2 s2 r2 => ?_⟩
      walk_at "go"
      have f2 := f.mono RRow.mono s2
      have e2 := s2 _ _ e1
      obtain ⟨ys2, e2', hl2, fp⟩ := f2.push (d := rowD nd (rowsD nd (ls.take i) []) l) (RRow.tup _ _ _ _ (NTup.lst e2) r2)
      refine w_append e2' (line_of (by rw [hl2, hlen]; omega)) ?_
      walk_at "go"
      refine ⟨_, rfl, ?_⟩
      rw [List.take_add_one, hl]
      show Filled (RRow K) H _ ol (rowsD nd (ls.take i ++ [l]) [])
      rw [rowsD_snoc]
      exact fp
    · rintro σ H' ⟨y3, rfl, f⟩
      rw [List.length_map, natI_len, List.take_length] at f
      obtain ⟨a4, ys4, e4, hS4, hl4, hr4⟩ := f.seq RRow.mono (K := K)
      cases e4
      walk_at "go"
      refine w_tupL hS4 fun t1 ht1 => ?_
      walk_at "go"
      exact k _ _ (f.same.trans (Same.new ht1)) ⟨t1, ys4, rfl, Sq.tup upd_same, hl4, fun i y d h1 h2 => RRow.mono _ _ _ _ (Same.new ht1) (hr4 i y d h1 h2)⟩

def lastW (rows : List RowD) : List Int := (rows.getLastD ([], [])).2
theorem last_atV {α : Type} {xs : List α} {x : α} {n : Nat} (h : xs[n]? = some x) (hn : xs.length = n + 1) : atI xs (-1) = some x := by
  unfold atI ixN
  rw [if_neg (by decide), if_pos (by omega)]
  show xs[(-1 + ((xs.length : Nat) : Int)).toNat]? = _
  rw [show (-1 + ((xs.length : Nat) : Int)).toNat = n by omega]
  exact h
def primes : List Int := [2, 3, 5, 7, 11, 13, 17, 19, 23, 29, 31, 37, 41, 43, 47, 53, 59, 61, 67, 71, 73, 79, 83, 89, 97]
theorem prime_in {p : Int} (h : p ∈ primes) : (if true = true then !inV (.int p) (primes.map V.int) else inV (.int p) (primes.map V.int)) = false := by
  rw [if_pos rfl]
  have : inV (.int p) (primes.map V.int) = true := by
    unfold inV
    exact List.any_eq_true.mpr ⟨.int p, List.mem_map.mpr ⟨p, h, rfl⟩, by rw [eqV_int]; exact beq_self_eq_true p⟩
  rw [this]
  rfl
theorem prime_between {p : Int} (h : p ∈ primes) : 2 ≤ p ∧ p ≤ 97 := by
  simp only [primes, List.mem_cons, List.not_mem_nil, or_false] at h
  omega
def sp_Net___init__ (K : PySem.W.Frag) (C : Addr) : Sp := fun vs H Q _ => ∃ (p dx : Addr) (nd : NetD) (v1 v2 v3 v4 e : V), vs = [.ref p, .int nd.p, v1, v2, v3, v4, e] ∧ H p = some (.ins C dx []) ∧ nd.p ∈ primes ∧
  RMatX K (hide p H) v1 nd.emb ∧ RVecX K (hide p H) v2 nd.sh ∧ RLayX K (hide p H) v3 nd.lay ∧ RMatX K (hide p H) v4 nd.out ∧ nd.emb.length ≤ 1000 ∧ nd.out.length ≤ 1000 ∧ nd.lay.length ≤ 1000 ∧ (∀ L ∈ nd.lay, L.length ≤ 1000 ∧ ∀ M ∈ L, M.length ≤ 1000) ∧
  ∀ H', Same (hide p H) (hide p H') → IsNet K C H' p nd e → Q .non H'
theorem ok_Net___init__ (T : Txt K mg) : FnOk P w K mg base CX0 3 T.a_Net___init__ T.d_Net___init__ ["self", "prime", "embed", "shift", "layers", "out", "end"] (sp_Net___init__ K T.c_Net) := by
  refine T.F_Net___init__.ok sc_Net___init__ (fun vs H Q E h => ?_) (fun cdv A outer s H vs Q E hr h => ?_)
  · obtain ⟨_, _, _, _, _, _, _, _, rfl, _⟩ := h
    rfl
  · obtain ⟨p, dx, nd, v1, v2, v3, v4, e, rfl, h0, hpr, f1, f2, f3, f4, z1, z2, z3, z4, k⟩ := h
    have cN := T.C_Net
    have n0 := T.n_Net_prime
    have n1 := T.n_Net_embed
    have n2 := T.n_Net_shift
    have n3 := T.n_Net_layers
    have n4 := T.n_Net_out
    have n5 := T.n_Net_end
    have hb := prime_between hpr
    refine ⟨_, (pss_cons (ps_if (PW.pt (pw_or (pt_not (k_tru (K := K) rfl (pe_call (ok_is_between T) (hr.mono (by decide)) (by rfl) T.g_is_between T.F_is_between.kp T.b_is_between .nil pass0 (pa_cons (pv 1) (pa_cons pe_int (pa_cons pe_int pa_nil)))) (by intro _; rfl))) (pw_or1 (pt_cmpR (k_notInS (K := K) rfl) (pv 1) (pe_glob (v := .ref T.k_PRIMES) (by rfl) T.gk_PRIMES rfl) rfl)))) (pss_one ps_never) pss_nil)
      (pss_cons (k_sfld (K := K) rfl (pv 0) (pv 1) rfl)
      (pss_cons (k_sfld (K := K) rfl (pv 0) (pe_call (ok_matrix_of T) (hr.mono (by decide)) (by rfl) T.g_matrix_of T.F_matrix_of.kp T.b_matrix_of .nil pass0 (pa_cons (pv 2) pa_nil)) rfl)
      (pss_cons (k_sfld (K := K) rfl (pv 0) (pe_call (ok_vector_of T) (hr.mono (by decide)) (by rfl) T.g_vector_of T.F_vector_of.kp T.b_vector_of .nil pass0 (pa_cons (pv 3) pa_nil)) rfl)
      (pss_cons (k_sfld (K := K) rfl (pv 0) (pe_callTy (k_tupS (K := K) rfl) (by rfl) T.z_tuple (by decide +kernel) (pa_cons (pe_lc (own := [("layer", 7)]) (g := gName 7) (tt := tYes) rfl sc_Net___init__.nd (k_seqS (K := K) rfl (pv 4)) (blkOk_by (own := [("layer", 7)]) (by kernel_rfl)) (fun _ _ _ _ _ => (pg_name (i := 7) sc_Net___init__.nd rfl (by first | exact Or.inl rfl | exact Or.inr rfl))) (fun _ _ _ _ _ => pts_nil) (fun _ _ _ _ _ => (pe_callTy (k_tupS (K := K) rfl) (by rfl) T.z_tuple (by decide +kernel) (pa_cons (pe_lc (own := [("matrix", 8)]) (g := gName 8) (tt := tYes) rfl sc_Net___init__.nd (k_seqS (K := K) rfl (pv 7)) (blkOk_by (own := [("matrix", 8)]) (by kernel_rfl)) (fun _ _ _ _ _ => (pg_name (i := 8) sc_Net___init__.nd rfl (by first | exact Or.inl rfl | exact Or.inr rfl))) (fun _ _ _ _ _ => pts_nil) (fun _ _ _ _ _ => (pe_call (ok_matrix_of T) (hr.mono (by decide)) (by rfl) T.g_matrix_of T.F_matrix_of.kp T.b_matrix_of .nil pass0 (pa_cons (pv 8) pa_nil)))) pa_nil)))) pa_nil)) rfl)
      (pss_cons (k_sfld (K := K) rfl (pv 0) (pe_call (ok_matrix_of T) (hr.mono (by decide)) (by rfl) T.g_matrix_of T.F_matrix_of.kp T.b_matrix_of .nil pass0 (pa_cons (pv 5) pa_nil)) rfl)
      (pss_one (k_sfld (K := K) rfl (pv 0) (pv 6) rfl)))))))), ?_⟩
    refine go_start (σ' := [some (.ref p), some (.int nd.p), some v1, some v2, some v3, some v4, some e, none, none]) rfl ?_
    walk_at "go"
    refine ⟨_, _, _, _, rfl, .inl ⟨_, rfl, rfl⟩, ?_⟩
    rw [decide_eq_true hb]
    walk_at "go"
    refine w_notInS (b := false) (T.tk_PRIMES H) rfl rfl ?_
    have ep := prime_in hpr
    rw [show (primes.map V.int) = [.int 2, .int 3, .int 5, .int 7, .int 11, .int 13, .int 17, .int 19, .int 23, .int 29, .int 31, .int 37, .int 41, .int 43, .int 47, .int 53, .int 59, .int 61, .int 67, .int 71, .int 73, .int 79, .int 83, .int 89, .int 97] from rfl] at ep
    rw [ep]
    walk_at "go"
    -- self.embed
    have b1 : Same (hide p H) (hide p (upd H p (.ins T.c_Net dx [("prime", .int nd.p)]))) := by rw [hide_upd]; exact Same.refl _
    refine ⟨_, _, rfl, RMatX.mono _ _ _ _ (b1.trans (hide_same _ _)) f1, by omega, fun u1 H1 s1 r1 => ?_⟩
    have g1 := s1 p _ upd_same
    have b2 := b1.trans (hide_mono s1)
    have r1 := RMat.tup _ _ _ _ (NTup.ins g1) r1
    walk_at "go"
    -- self.shift
    have b3 : Same (hide p H1) (hide p (upd H1 p (.ins T.c_Net dx [("prime", .int nd.p), ("embed", u1)]))) := by rw [hide_upd]; exact Same.refl _
    refine ⟨_, _, rfl, RVecX.mono _ _ _ _ ((b2.trans b3).trans (hide_same _ _)) f2, fun u2 H2 s2 r2 => ?_⟩
    have g2 := s2 p _ upd_same
    have b4 := b3.trans (hide_mono s2)
    have r2 := RVec.tup _ _ _ _ (NTup.ins g2) r2
    have r1 := RMat.mono _ _ _ _ b4 r1
    have b5 := b2.trans b4
    walk_at "go"
    -- self.layers
    have b6 : Same (hide p H2) (hide p (upd H2 p (.ins T.c_Net dx [("prime", .int nd.p), ("embed", u1), ("shift", u2)]))) := by rw [hide_upd]; exact Same.refl _
    generalize eH3 : upd H2 p (.ins T.c_Net dx [("prime", .int nd.p), ("embed", u1), ("shift", u2)]) = H3 at b6 ⊢
    have g3 : H3 p = some (.ins T.c_Net dx [("prime", .int nd.p), ("embed", u1), ("shift", u2)]) := by rw [← eH3, upd_same]
    obtain ⟨bl, al, lvs, rfl, hL1, hLl, hLr⟩ := RLayX.mono _ _ _ _ ((b5.trans b6).trans (hide_same _ _)) f3
    refine c_rep (R := RSeq false K (RMat K)) (RSeq.mono RMat.mono) (RSeq.tup RMat.tup) lvs hL1 nd.lay hLl.symm (line_of (by omega)) (fun _ => rfl) (fun i y L H4 N hi hy hL s4 hN2 => ?_) (fun D4 H4 ys hD4 s4 e4 hyl hyr => ?_)
    · obtain ⟨zl1, zl2⟩ := z4 L (List.mem_of_getElem? hL)
      obtain ⟨b', aL, ms, rfl, hm1, hml, hmr⟩ := hLr i y L hy hL
      walk_at "go"
      refine c_rep (R := RMat K) RMat.mono RMat.tup ms (s4.sq hm1) L hml.symm (line_of (by omega)) (fun _ => rfl) (fun j z M H5 N2 hj hz hM s5 hN3 => ?_) (fun D5 H5 zs hD5 s5 e5 hzl hzr => ?_)
      · walk_at "go"
        exact ⟨_, _, rfl, RMatX.mono _ _ _ _ (s4.trans s5) (hmr j z M hz hM), by have := zl2 M (List.mem_of_getElem? hM); omega, fun v' H6 s6 r6 => hN3 v' H6 s6 r6⟩
      · walk_at "go"
        refine w_tupL (Sq.lst e5) fun t ht => ?_
        walk_at "go"
        exact hN2 _ _ (s5.trans (Same.new ht)) ⟨t, zs, rfl, Sq.tup upd_same, hzl, fun j z M h1 h2 => RMat.mono _ _ _ _ (Same.new ht) (hzr j z M h1 h2)⟩
    walk_at "go"
    refine w_tupL (Sq.lst e4) fun t ht => ?_
    have s5 := s4.trans (Same.new (o := .tup ys) ht)
    have g4 := s5 p _ g3
    have r3 : RSeq false K (RSeq false K (RMat K)) (upd H4 t (.tup ys)) (.ref t) nd.lay := ⟨t, ys, rfl, Sq.tup upd_same, hyl, fun i y L h1 h2 => RSeq.mono RMat.mono _ _ _ _ (Same.new ht) (hyr i y L h1 h2)⟩
    generalize upd H4 t (.tup ys) = H5 at s5 g4 r3 ⊢
    have r3 := RSeq.tup (RSeq.tup RMat.tup) _ _ _ _ (NTup.ins g4) r3
    have b7 := b6.trans (hide_mono s5)
    have r1 := RMat.mono _ _ _ _ b7 r1
    have r2 := RVec.mono _ _ _ _ b7 r2
    have b8 := b5.trans b7
    walk_at "go"
    -- self.out
    have b9 : Same (hide p H5) (hide p (upd H5 p (.ins T.c_Net dx [("prime", .int nd.p), ("embed", u1), ("shift", u2), ("layers", .ref t)]))) := by rw [hide_upd]; exact Same.refl _
    refine ⟨_, _, rfl, RMatX.mono _ _ _ _ ((b8.trans b9).trans (hide_same _ _)) f4, by omega, fun u4 H6 s6 r4 => ?_⟩
    have g6 := s6 p _ upd_same
    have b10 := b9.trans (hide_mono s6)
    have r4 := RMat.tup _ _ _ _ (NTup.ins g6) r4
    walk_at "go"
    refine k _ (by simp only [hide_upd]; exact b8.trans b10) ⟨dx, u1, u2, .ref t, u4, upd_same, ?_, ?_, ?_, ?_⟩
    · exact RMat.mono _ _ _ _ (hide_same p _) (by simp only [hide_upd]; exact RMat.mono _ _ _ _ b10 r1)
    · exact RVec.mono _ _ _ _ (hide_same p _) (by simp only [hide_upd]; exact RVec.mono _ _ _ _ b10 r2)
    · exact RSeq.mono (RSeq.mono RMat.mono) _ _ _ _ (hide_same p _) (by simp only [hide_upd]; exact RSeq.mono (RSeq.mono RMat.mono) _ _ _ _ b10 r3)
    · exact RMat.mono _ _ _ _ (hide_same p _) (by simp only [hide_upd]; exact r4)

/-! ### weights behind letters -/


/-! ### the law's own nets: numbers, rows, matrices -/
def RNet (K : PySem.W.Frag) : Rep NetD := fun H v nd => ∃ a v1 v2 v3 v4, v = .ref a ∧ Sq false K H a [.int nd.p, v1, v2, v3, v4] ∧ RMat K H v1 nd.emb ∧ RVec false K H v2 nd.sh ∧ RSeq false K (RSeq false K (RMat K)) H v3 nd.lay ∧ RMat K H v4 nd.out
theorem RNet.mono {K : PySem.W.Frag} : RMono (RNet K) := fun _ _ _ _ s ⟨a, v1, v2, v3, v4, e, h, h1, h2, h3, h4⟩ => ⟨a, v1, v2, v3, v4, e, s.sq h, RMat.mono _ _ _ _ s h1, RVec.mono _ _ _ _ s h2, RSeq.mono (RSeq.mono RMat.mono) _ _ _ _ s h3, RMat.mono _ _ _ _ s h4⟩
theorem RNet.tup {K : PySem.W.Frag} : RTup (RNet K) := fun _ _ _ _ s ⟨a, v1, v2, v3, v4, e, h, h1, h2, h3, h4⟩ => ⟨a, v1, v2, v3, v4, e, sq_hide s h, RMat.tup _ _ _ _ s h1, RVec.tup _ _ _ _ s h2, RSeq.tup (RSeq.tup RMat.tup) _ _ _ _ s h3, RMat.tup _ _ _ _ s h4⟩
def sp_L_vector (K : PySem.W.Frag) : Sp := fun vs H Q _ => ∃ (a : Addr) (ns : List Int) (b : Bool) (t w p : Int), vs = [.ref a, .int t, .int w, .int p] ∧ Sq b K H a (ns.map V.int) ∧ 0 < ns.length ∧ ns.length ≤ 1000 ∧ 0 ≤ t ∧ t ≤ 1000000 ∧ 0 ≤ w ∧ w ≤ 4 ∧ 2 ≤ p ∧ p ≤ 97 ∧
  ∀ v' H' (us : List Int), Same H H' → RVec false K H' v' us → us.length = w.toNat → Sml p us → Q v' H'
theorem sml_snoc {p : Int} (hp : 0 < p) {us : List Int} (h : Sml p us) (z : Int) : Sml p (us ++ [z % p]) := fun x hx => by
  rcases List.mem_append.mp hx with h1 | h1
  · exact h x h1
  · rw [List.mem_singleton.mp h1]
    exact ⟨Int.emod_nonneg _ (by omega), Int.emod_lt_of_pos _ hp⟩
theorem ok_L_vector (T : Txt K mg) : FnOk P w K mg base CX0 1 T.a_L_vector T.d_L_vector ["_law_numbers_here", "_law_at", "_law_width", "_law_prime"] (sp_L_vector K) := by
  refine T.F_L_vector.ok sc_L_vector (fun vs H Q E h => ?_) (fun cdv A outer s H vs Q E hr h => ?_)
  · obtain ⟨_, _, _, _, _, _, rfl, _⟩ := h
    rfl
  · obtain ⟨a, ns, b, t, wd, p, rfl, hS, hn0, hn1, t0, t1, w0, w1, p0, p1, k⟩ := h
    refine ⟨_, (pss_cons (ps_set (i := 4) sc_L_vector.nd rfl (Or.inl rfl) (pe_lst pa_nil))
      (pss_cons (ps_for PassesOwn.never rfl (pi_range2 rfl T.z_range (pa_cons (pv 1) (pa_cons (pe_op (k_addG (K := K) rfl) (pv 1) (pv 2)) pa_nil))) (pg_name (i := 5) sc_L_vector.nd rfl (Or.inl rfl))
      (pss_one (ps_expr (k_bm (K := K) rfl PySem.F.plainAttrs_list PySem.F.slot_list_append PySem.F.type_list_append mt_append (pv 4) (pa_cons (pe_op op_mod (pe_callTy cr_int1 (by rfl) T.z_int (by decide +kernel) (pa_cons (pe_op (k_addG (K := K) rfl) (pe_ix (k_ix (K := K) rfl) (pv 0) (pe_op op_mod (pe_callTy cr_int1 (by rfl) T.z_int (by decide +kernel) (pa_cons (pv 5) pa_nil)) (pe_callB (k_lenS (K := K) rfl) (by rfl) T.z_len (by decide +kernel) (pa_cons (pv 0) pa_nil))) (fun _ _ => rfl)) (pe_op op_mul pe_int (pe_op op_fdiv (pv 5) (pe_callB (k_lenS (K := K) rfl) (by rfl) T.z_len (by decide +kernel) (pa_cons (pv 0) pa_nil))))) pa_nil)) (pv 3)) pa_nil)))))
      (pss_one (ps_ret (pe_callTy (k_tupS (K := K) rfl) (by rfl) T.z_tuple (by decide +kernel) (pa_cons (pv 4) pa_nil)))))), ?_⟩
    refine go_start (σ' := [some (.ref a), some (.int t), some (.int wd), some (.int p), none, none]) rfl ?_
    try dsimp only [cxOf, Cx.nox, Cx.wish]
    walk_at "go"
    refine ⟨Nat.zero_le _, fun D hD => ?_⟩
    walk_at "go"
    refine l_range2 (fun i σ H' => ∃ (us : List Int) (y5 : Option V), σ = [some (.ref a), some (.int t), some (.int wd), some (.int p), some (.ref D), y5] ∧ us.length = i ∧ Sml p us ∧ Same H H' ∧ H' D = some (.lst (us.map V.int)))
      ⟨by omega, by omega, by omega, by omega⟩ ⟨[], none, rfl, rfl, fun x hx => by simp at hx, Same.new hD, upd_same⟩ ?_ ?_
    · rintro i σ H' hi ⟨us, y5, rfl, hl, hs, sm, hL⟩
      have hS' := sm.sq hS
      have hm0 : 0 ≤ (t + (i : Int)) % (ns.length : Int) := Int.emod_nonneg _ (by omega)
      have hm1 : (t + (i : Int)) % (ns.length : Int) < ns.length := Int.emod_lt_of_pos _ (by omega)
      walk_at "go"
      refine w_append hL (line_of (by rw [List.length_map]; omega)) ?_
      walk_at "go"
      refine ⟨us ++ [_], _, rfl, by rw [List.length_append, hl]; rfl, sml_snoc (by omega) hs _, Same.mut sm hD, by rw [upd_same, List.map_append]; rfl⟩
    · rintro σ H' ⟨us, y5, rfl, hl, hs, sm, hL⟩
      walk_at "go"
      refine w_tupL (Sq.lst hL) fun t1 ht1 => ?_
      walk_at "go"
      exact k _ _ us (sm.trans (Same.new ht1)) ⟨t1, rfl, Sq.tup upd_same⟩ (by omega) hs
def sp_L_dot (K : PySem.W.Frag) : Sp := fun vs H Q _ => ∃ (v1 v2 : V) (us ws : List Int) (p : Int), vs = [v1, v2, .int p] ∧ RVecX K H v1 us ∧ RVecX K H v2 ws ∧ us.length = ws.length ∧ us.length ≤ 1000 ∧ Bd us ∧ 0 < p ∧ Q (.int (dot us ws % p)) H
theorem ok_L_dot (T : Txt K mg) : FnOk P w K mg base CX0 1 T.a_L_dot T.d_L_dot ["_law_one", "_law_other", "_law_prime"] (sp_L_dot K) := by
  refine T.F_L_dot.ok sc_L_dot (fun vs H Q E h => ?_) (fun cdv A outer s H vs Q E hr h => ?_)
  · obtain ⟨_, _, _, _, _, rfl, _⟩ := h
    rfl
  · obtain ⟨v1, v2, us, ws, p, rfl, ⟨b1, a1, rfl, h1⟩, ⟨b2, a2, rfl, h2⟩, hl, hz, hB, hp, k⟩ := h
    refine ⟨_, (pss_cons (ps_set (i := 3) sc_L_dot.nd rfl (Or.inl rfl) pe_int)
      (pss_cons (ps_for PassesOwn.never rfl (pi_range1 rfl T.z_range (pa_cons (pe_callB (k_lenS (K := K) rfl) (by rfl) T.z_len (by decide +kernel) (pa_cons (pv 0) pa_nil)) pa_nil)) (pg_name (i := 4) sc_L_dot.nd rfl (Or.inl rfl))
      (pss_one (ps_set (i := 3) sc_L_dot.nd rfl (Or.inl rfl) (pe_op (k_addG (K := K) rfl) (pv 3) (pe_op op_mul (pe_ix (k_ix (K := K) rfl) (pv 0) (pv 4) (fun _ _ => rfl)) (pe_ix (k_ix (K := K) rfl) (pv 1) (pv 4) (fun _ _ => rfl)))))))
      (pss_one (ps_ret (pe_op op_mod (pe_callTy cr_int1 (by rfl) T.z_int (by decide +kernel) (pa_cons (pv 3) pa_nil)) (pv 2)))))), ?_⟩
    refine go_start (σ' := [some (.ref a1), some (.ref a2), some (.int p), none, none]) rfl ?_
    try dsimp only [cxOf, Cx.nox, Cx.wish]
    walk_at "go"
    refine l_range (fun i σ H' => ∃ y4, σ = [some (.ref a1), some (.ref a2), some (.int p), some (.int (pre (List.zipWith (· * ·) us ws) i)), y4] ∧ H' = H)
      (by omega) (by omega) ⟨none, by rw [pre_zero]; rfl, rfl⟩ ?_ ?_
    · rintro i σ H' hi ⟨y4, rfl, rfl⟩
      have hb := hB _ (nth_mem (ns := us) (i := ((i : Nat) : Int)) (by omega) (by omega))
      walk_at "go"
      have e := pre_succ (ns := List.zipWith (· * ·) us ws) (j := i) (by rw [List.length_zipWith]; omega)
      rw [nth_zip (by omega) (by omega)] at e
      exact ⟨_, by rw [e]; rfl, rfl⟩
    · rintro σ H' ⟨y4, rfl, rfl⟩
      walk_at "go"
      rw [show ((us.length : Nat) : Int).toNat = (List.zipWith (· * ·) us ws).length by rw [List.length_zipWith, hl, Nat.min_self]; omega, pre_all]
      exact k
def sp_L_times (K : PySem.W.Frag) : Sp := fun vs H Q _ => ∃ (v1 v2 : V) (M : Mat) (x : List Int) (p : Int), vs = [v1, v2, .int p] ∧ RMat K H v1 M ∧ RVecX K H v2 x ∧ (∀ r ∈ M, r.length = x.length ∧ Bd r) ∧ M.length ≤ 1000 ∧ x.length ≤ 1000 ∧ 0 < p ∧
  ∀ D H', H D = none → Same H H' → H' D = some (.lst ((vtimes p M x).map V.int)) → Q (.ref D) H'
theorem ok_L_times (T : Txt K mg) : FnOk P w K mg base CX0 2 T.a_L_times T.d_L_times ["_law_matrix", "_law_vector_here", "_law_prime"] (sp_L_times K) := by
  refine T.F_L_times.ok sc_L_times (fun vs H Q E h => ?_) (fun cdv A outer s H vs Q E hr h => ?_)
  · obtain ⟨_, _, _, _, _, rfl, _⟩ := h
    rfl
  · obtain ⟨v1, v2, M, x, p, rfl, ⟨a1, xs, rfl, h1, hl1, hr1⟩, hx, hM, hz, hxz, hp, k⟩ := h
    refine ⟨_, (pss_one (ps_ret (pe_lc (own := [("_law_row_here", 3)]) (g := gName 3) (tt := tYes) rfl sc_L_times.nd (k_seqS (K := K) rfl (pv 0)) (blkOk_by (own := [("_law_row_here", 3)]) (by kernel_rfl)) (fun _ _ _ _ _ => (pg_name (i := 3) sc_L_times.nd rfl (by first | exact Or.inl rfl | exact Or.inr rfl))) (fun _ _ _ _ _ => pts_nil) (fun _ _ _ _ _ => (pe_call (ok_L_dot T) (hr.mono (by decide)) (by rfl) T.g_L_dot T.F_L_dot.kp T.b_L_dot .nil pass0 (pa_cons (pv 3) (pa_cons (pv 1) (pa_cons (pv 2) pa_nil)))))))), ?_⟩
    refine go_start (σ' := [some (.ref a1), some v2, some (.int p), none]) rfl ?_
    try dsimp only [cxOf, Cx.nox, Cx.wish]
    walk_at "go"
    refine c_ints xs h1 (vtimes p M x) (by rw [vtimes_len, hl1]) (line_of (by omega)) (fun _ => rfl) (fun i y H1 N hi hy sm hN2 => ?_) (fun D H' hD sm e2 => ?_)
    · have hd : M[i]? = some (M[i]'(by omega)) := List.getElem?_eq_getElem (by omega)
      obtain ⟨hm1, hm2⟩ := hM _ (List.mem_of_getElem? hd)
      walk_at "go"
      refine ⟨_, _, _, x, p, rfl, ⟨false, RVec.mono _ _ _ _ sm (hr1 i y _ hy hd)⟩, RVecX.mono _ _ _ _ sm hx, hm1, by omega, hm2, hp, ?_⟩
      rw [← nth_mapG (f := fun r => dot r x % p) hd]
      exact hN2 _ (Same.refl _)
    · walk_at "go"
      exact k _ _ hD sm e2

/-! ### _law_net -/
def sp_L_net (K : PySem.W.Frag) : Sp := fun vs H Q _ => ∃ (a : Addr) (ns : List Int) (b : Bool) (L wd m p : Int), vs = [.ref a, .int L, .int wd, .int m, .int p] ∧ Sq b K H a (ns.map V.int) ∧ 0 < ns.length ∧ ns.length ≤ 1000 ∧ 1 ≤ L ∧ L ≤ 12 ∧ 1 ≤ wd ∧ wd ≤ 4 ∧ 0 ≤ m ∧ m ≤ 3 ∧ 2 ≤ p ∧ p ≤ 97 ∧
  ∀ v' H' (nd : NetD), Same H H' → RNet K H' v' nd → NetOk nd wd.toNat → nd.p = p → (nd.emb.length : Int) = L → nd.out.length = nd.emb.length → (nd.lay.length : Int) = m → Q v' H'
theorem matok_cut {p : Int} {w : Nat} {M : Mat} (h : MatOk p w M) (a n : Nat) : MatOk p w ((M.drop a).take n) := fun r hr => h r (List.mem_of_mem_drop (List.mem_of_mem_take hr))
theorem ok_L_net (T : Txt K mg) : FnOk P w K mg base CX0 2 T.a_L_net T.d_L_net ["_law_numbers_here", "_law_letters", "_law_width", "_law_many", "_law_prime"] (sp_L_net K) := by
  refine T.F_L_net.ok sc_L_net (fun vs H Q E h => ?_) (fun cdv A outer s H vs Q E hr h => ?_)
  · obtain ⟨_, _, _, _, _, _, _, rfl, _⟩ := h
    rfl
  · obtain ⟨a, ns, b, L, wd, m, p, rfl, hS, hn0, hn1, L0, L1, w0, w1, m0, m1, p0, p1, k⟩ := h
    refine ⟨_, (pss_cons (ps_set (i := 5) sc_L_net.nd rfl (Or.inl rfl) (pe_lst pa_nil))
      (pss_cons (ps_for PassesOwn.never rfl (pi_range1 rfl T.z_range (pa_cons (pe_op (k_addG (K := K) rfl) (pe_op (k_addG (K := K) rfl) (pe_op op_mul pe_int (pv 1)) pe_int) (pe_op op_mul (pe_op op_mul pe_int (pv 2)) (pv 3))) pa_nil)) (pg_name (i := 6) sc_L_net.nd rfl (Or.inl rfl))
      (pss_one (ps_expr (k_bm (K := K) rfl PySem.F.plainAttrs_list PySem.F.slot_list_append PySem.F.type_list_append mt_append (pv 5) (pa_cons (pe_call (ok_L_vector T) (hr.mono (by decide)) (by rfl) T.g_L_vector T.F_L_vector.kp T.b_L_vector .nil pass0 (pa_cons (pv 0) (pa_cons (pe_op op_mul (pv 6) (pv 2)) (pa_cons (pv 2) (pa_cons (pv 4) pa_nil))))) pa_nil)))))
      (pss_cons (ps_set (i := 7) sc_L_net.nd rfl (Or.inl rfl) (pe_lst pa_nil))
      (pss_cons (ps_for PassesOwn.never rfl (pi_range1 rfl T.z_range (pa_cons (pv 3) pa_nil)) (pg_name (i := 8) sc_L_net.nd rfl (Or.inl rfl))
      (pss_cons (ps_set (i := 9) sc_L_net.nd rfl (Or.inl rfl) (pe_lst pa_nil))
      (pss_cons (ps_for PassesOwn.never rfl (pi_range1 rfl T.z_range (pa_cons pe_int pa_nil)) (pg_name (i := 6) sc_L_net.nd rfl (Or.inl rfl))
      (pss_cons (ps_set (i := 10) sc_L_net.nd rfl (Or.inl rfl) (pe_op (k_addG (K := K) rfl) (pe_op (k_addG (K := K) rfl) (pe_op op_mul pe_int (pv 1)) pe_int) (pe_op op_mul (pv 2) (pe_op (k_addG (K := K) rfl) (pe_op op_mul pe_int (pv 8)) (pv 6)))))
      (pss_one (ps_expr (k_bm (K := K) rfl PySem.F.plainAttrs_list PySem.F.slot_list_append PySem.F.type_list_append mt_append (pv 9) (pa_cons (pe_callTy (k_tupS (K := K) rfl) (by rfl) T.z_tuple (by decide +kernel) (pa_cons (pe_slice (k_slG (K := K) rfl) (pv 5) (po_some (pv 10)) (po_some (pe_op (k_addG (K := K) rfl) (pv 10) (pv 2)))) pa_nil)) pa_nil))))))
      (pss_one (ps_expr (k_bm (K := K) rfl PySem.F.plainAttrs_list PySem.F.slot_list_append PySem.F.type_list_append mt_append (pv 7) (pa_cons (pe_callTy (k_tupS (K := K) rfl) (by rfl) T.z_tuple (by decide +kernel) (pa_cons (pv 9) pa_nil)) pa_nil)))))))
      (pss_one (ps_ret (pe_tup (pa_cons (pv 4) (pa_cons (pe_callTy (k_tupS (K := K) rfl) (by rfl) T.z_tuple (by decide +kernel) (pa_cons (pe_slice (k_slG (K := K) rfl) (pv 5) po_none (po_some (pv 1))) pa_nil)) (pa_cons (pe_ix (k_ix (K := K) rfl) (pv 5) (pe_op op_mul pe_int (pv 1)) (fun _ _ => rfl)) (pa_cons (pe_callTy (k_tupS (K := K) rfl) (by rfl) T.z_tuple (by decide +kernel) (pa_cons (pv 7) pa_nil)) (pa_cons (pe_callTy (k_tupS (K := K) rfl) (by rfl) T.z_tuple (by decide +kernel) (pa_cons (pe_slice (k_slG (K := K) rfl) (pv 5) (po_some (pv 1)) (po_some (pe_op op_mul pe_int (pv 1)))) pa_nil)) pa_nil)))))))))))), ?_⟩
    refine go_start (σ' := [some (.ref a), some (.int L), some (.int wd), some (.int m), some (.int p), none, none, none, none, none, none]) rfl ?_
    try dsimp only [cxOf, Cx.nox, Cx.wish]
    have hN : 0 ≤ 5 * wd * m ∧ 5 * wd * m ≤ 60 := by
      have h3 : m = 0 ∨ m = 1 ∨ m = 2 ∨ m = 3 := by omega
      rcases h3 with h | h | h | h <;> subst h <;> omega
    walk_at "go"
    refine ⟨Nat.zero_le _, fun D hD => ?_⟩
    walk_at "go"
    refine l_range (fun i σ H' => ∃ (M : Mat) (y6 : Option V), σ = [some (.ref a), some (.int L), some (.int wd), some (.int m), some (.int p), some (.ref D), y6, none, none, none, none] ∧ M.length = i ∧ MatOk p wd.toNat M ∧ Filled (RVec false K) H H' D M)
      (by omega) (by omega) ⟨[], none, rfl, rfl, List.forall_mem_nil _, Filled.nil hD⟩ ?_ ?_
    · rintro i σ H' hi ⟨M, y6, rfl, hl, hM, f⟩
      obtain ⟨ys, e1, hl1, _⟩ := f.at_
      have ht : 0 ≤ (i : Int) * wd ∧ (i : Int) * wd ≤ 1000000 := by
        have h3 : wd = 1 ∨ wd = 2 ∨ wd = 3 ∨ wd = 4 := by omega
        rcases h3 with h | h | h | h <;> subst h <;> omega
      walk_at "go"
      refine ⟨a, ns, b, _, wd, p, rfl, f.same.sq hS, hn0, hn1, ht.1, ht.2, by omega, by omega, p0, p1, fun v' H2 us s2 r2 hul hus => ?_⟩
      walk_at "go"
      have f2 := f.mono RVec.mono s2
      obtain ⟨ys2, e2, hl2, fp⟩ := f2.push (d := us) (RVec.tup _ _ _ _ (NTup.lst (s2 _ _ e1)) r2)
      refine w_append e2 (line_of (by rw [hl2]; omega)) ?_
      walk_at "go"
      refine ⟨M ++ [us], _, rfl, by rw [List.length_append, hl]; rfl, fun r hr => ?_, fp⟩
      rcases List.mem_append.mp hr with h | h
      · exact hM r h
      · rw [List.mem_singleton.mp h]; exact ⟨hul, hus⟩
    · rintro σ H1 ⟨M, y6, rfl, hMl, hM, f⟩
      obtain ⟨ys, e1, hyl, hyr⟩ := f.at_
      have hyr : ∀ (i : Nat) y d, ys[i]? = some y → M[i]? = some d → RVec false K H1 y d := fun i y d h1 h2 => RVec.mono _ _ _ _ (hide_same D H1) (hyr i y d h1 h2)
      have sH1 := f.same
      clear f
      walk_at "go"
      refine ⟨Nat.zero_le _, fun D2 hD2 => ?_⟩
      walk_at "go"
      refine l_range (fun i σ H' => ∃ (Ls : List (List Mat)) (y6 y8 y9 y10 : Option V), σ = [some (.ref a), some (.int L), some (.int wd), some (.int m), some (.int p), some (.ref D), y6, some (.ref D2), y8, y9, y10] ∧ Ls.length = i ∧ (∀ L ∈ Ls, L.length = 5 ∧ ∀ M ∈ L, M.length = wd.toNat ∧ MatOk p wd.toNat M) ∧ Filled (RSeq false K (RMat K)) H1 H' D2 Ls)
        (by omega) (by omega) ⟨[], _, _, _, _, rfl, rfl, List.forall_mem_nil _, Filled.nil hD2⟩ ?_ ?_
      · rintro i σ H2 hi ⟨Ls, y6, y8, y9, y10, rfl, hLl, hLs, f2⟩
        walk_at "go"
        refine ⟨Nat.zero_le _, fun D3 hD3 => ?_⟩
        walk_at "go"
        refine l_range (fun j σ H' => ∃ (Ms : List Mat) (y6 y10 : Option V), σ = [some (.ref a), some (.int L), some (.int wd), some (.int m), some (.int p), some (.ref D), y6, some (.ref D2), some (.int (i : Nat)), some (.ref D3), y10] ∧ Ms.length = j ∧ (∀ M ∈ Ms, M.length = wd.toNat ∧ MatOk p wd.toNat M) ∧ Filled (RMat K) H2 H' D3 Ms)
          (by omega) (by omega) ⟨[], _, _, rfl, rfl, List.forall_mem_nil _, Filled.nil hD3⟩ ?_ ?_
        · rintro j σ H3 hj ⟨Ms, y6, y10, rfl, hMsl, hMs, f3⟩
          obtain ⟨zs, e3, hzl, _⟩ := f3.at_
          have hf : 0 ≤ 2 * L + 1 + wd * (5 * (i : Int) + (j : Int)) ∧ 2 * L + 1 + wd * (5 * (i : Int) + (j : Int)) + wd ≤ (ys.length : Int) := by
            rw [hyl, hMl]
            have h3 : wd = 1 ∨ wd = 2 ∨ wd = 3 ∨ wd = 4 := by omega
            rcases h3 with h | h | h | h <;> subst h <;> omega
          have s13 := f2.same.trans f3.same
          have e1' := s13 _ _ e1
          walk_at "go"
          generalize 2 * L + 1 + wd * (5 * (i : Int) + (j : Int)) = fi at hf ⊢
          refine w_slC (Sq.lst e1') (cutV_int hf.1 (by omega) hf.2) fun q1 hq1 => ?_
          walk_at "go"
          have s4 := Same.new (o := .lst ((ys.drop fi.toNat).take ((fi + wd).toNat - fi.toNat))) hq1
          refine w_tupL (Sq.lst upd_same) fun q2 hq2 => ?_
          walk_at "go"
          have s5 := s4.trans (Same.new (o := .tup ((ys.drop fi.toNat).take ((fi + wd).toNat - fi.toNat))) hq2)
          have rM : RMat K (upd (upd H3 q1 (.lst ((ys.drop fi.toNat).take ((fi + wd).toNat - fi.toNat)))) q2 (.tup ((ys.drop fi.toNat).take ((fi + wd).toNat - fi.toNat)))) (.ref q2) ((M.drop fi.toNat).take ((fi + wd).toNat - fi.toNat)) :=
            ⟨q2, _, rfl, Sq.tup upd_same, by rw [List.length_take, List.length_take, List.length_drop, List.length_drop, hyl], rep_cut (fun i' y d h1 h2 => RVec.mono _ _ _ _ (s13.trans s5) (hyr i' y d h1 h2)) _ _⟩
          generalize upd (upd H3 q1 (.lst ((ys.drop fi.toNat).take ((fi + wd).toNat - fi.toNat)))) q2 (.tup ((ys.drop fi.toNat).take ((fi + wd).toNat - fi.toNat))) = H5 at s5 rM ⊢
          obtain ⟨zs2, e5, hl5, fp⟩ := (f3.mono RMat.mono s5).push (d := (M.drop fi.toNat).take ((fi + wd).toNat - fi.toNat)) (RMat.tup _ _ _ _ (NTup.lst (s5 _ _ e3)) rM)
          refine w_append e5 (line_of (by rw [hl5]; omega)) ?_
          walk_at "go"
          refine ⟨Ms ++ [_], _, _, rfl, by rw [List.length_append, hMsl]; rfl, fun M' hM' => ?_, fp⟩
          rcases List.mem_append.mp hM' with h | h
          · exact hMs M' h
          · rw [List.mem_singleton.mp h]
            refine ⟨?_, matok_cut hM _ _⟩
            rw [List.length_take, List.length_drop]
            omega
        · rintro σ H3 ⟨Ms, y6, y10, rfl, hMsl, hMs, f3⟩
          have f2' := f2.mono (RSeq.mono RMat.mono) f3.same
          obtain ⟨zs, e2, hzl, _⟩ := f2'.at_
          obtain ⟨a3, ms, ea, hm1, hm2, hm3⟩ := f3.seq RMat.mono (K := K)
          cases ea
          walk_at "go"
          refine w_tupL hm1 fun q2 hq2 => ?_
          walk_at "go"
          have s5 := Same.new (o := .tup ms) hq2
          obtain ⟨zs2, e5, hl5, fp⟩ := (f2'.mono (RSeq.mono RMat.mono) s5).push (d := Ms) (RSeq.tup RMat.tup _ _ _ _ (NTup.lst (s5 _ _ e2)) ⟨q2, ms, rfl, Sq.tup upd_same, hm2, fun i' y d h1 h2 => RMat.mono _ _ _ _ s5 (hm3 i' y d h1 h2)⟩)
          refine w_append e5 (line_of (by rw [hl5]; omega)) ?_
          walk_at "go"
          refine ⟨Ls ++ [Ms], _, _, _, _, rfl, by rw [List.length_append, hLl]; rfl, fun L' hL' => ?_, fp⟩
          rcases List.mem_append.mp hL' with h | h
          · exact hLs L' h
          · rw [List.mem_singleton.mp h]; exact ⟨by omega, hMs⟩
      · rintro σ H2 ⟨Ls, y6, y8, y9, y10, rfl, hLl, hLs, f2⟩
        have s12 := f2.same
        have e2 := s12 _ _ e1
        have hyl2 : (ys.length : Int) = 2 * L + 1 + 5 * wd * m := by rw [hyl, hMl]; omega
        obtain ⟨a3, ls, ea, hm1, hm2, hm3⟩ := f2.seq (RSeq.mono RMat.mono) (K := K)
        cases ea
        walk_at "go"
        refine w_slC (Sq.lst e2) (cutV_intTo (by omega) (by omega)) fun q1 hq1 => ?_
        walk_at "go"
        have t1 := Same.new (o := .lst (ys.take L.toNat)) hq1
        refine w_tupL (Sq.lst upd_same) fun q2 hq2 => ?_
        walk_at "go"
        have t2 := t1.trans (Same.new (o := .tup (ys.take L.toNat)) hq2)
        have r1 : RMat K (upd (upd H2 q1 (.lst (ys.take L.toNat))) q2 (.tup (ys.take L.toNat))) (.ref q2) (M.take L.toNat) :=
          ⟨q2, _, rfl, Sq.tup upd_same, by rw [List.length_take, List.length_take, hyl], rep_to (fun i' y d h1 h2 => RVec.mono _ _ _ _ (s12.trans t2) (hyr i' y d h1 h2)) _⟩
        generalize upd (upd H2 q1 (.lst (ys.take L.toNat))) q2 (.tup (ys.take L.toNat)) = H3 at t2 r1 ⊢
        have h2L : (2 * L).toNat < M.length := by omega
        have hsd : M[(2 * L).toNat]? = some (M[(2 * L).toNat]'h2L) := List.getElem?_eq_getElem h2L
        generalize M[(2 * L).toNat]'h2L = sh at hsd
        have hys : ys[(2 * L).toNat]? = some (ys[(2 * L).toNat]'(by omega)) := List.getElem?_eq_getElem (by omega)
        generalize ys[(2 * L).toNat]'(by omega) = ysh at hys
        have r2 := RVec.mono _ _ _ _ (s12.trans t2) (hyr _ _ _ hys hsd)
        refine w_ix (Sq.lst (t2 _ _ e2)) (v := ysh) (by rw [show (2 * L : Int) = (((2 * L).toNat : Nat) : Int) by omega]; exact atI_nat hys) ?_
        walk_at "go"
        refine w_tupL (t2.sq hm1) fun q3 hq3 => ?_
        walk_at "go"
        have t3 := t2.trans (Same.new (o := .tup ls) hq3)
        have r3 : RSeq false K (RSeq false K (RMat K)) (upd H3 q3 (.tup ls)) (.ref q3) Ls := ⟨q3, ls, rfl, Sq.tup upd_same, hm2, fun i' y d h1 h2 => RSeq.mono RMat.mono _ _ _ _ t3 (hm3 i' y d h1 h2)⟩
        have r1 := RMat.mono _ _ _ _ (Same.new (o := .tup ls) hq3) r1
        have r2 := RVec.mono _ _ _ _ (Same.new (o := .tup ls) hq3) r2
        generalize upd H3 q3 (.tup ls) = H4 at t3 r3 r1 r2 ⊢
        refine w_slC (Sq.lst (t3 _ _ e2)) (cutV_int (by omega) (by omega) (by omega)) fun q4 hq4 => ?_
        walk_at "go"
        have t4 := Same.new (o := .lst ((ys.drop L.toNat).take ((2 * L).toNat - L.toNat))) hq4
        refine w_tupL (Sq.lst upd_same) fun q5 hq5 => ?_
        walk_at "go"
        have t5 := t4.trans (Same.new (o := .tup ((ys.drop L.toNat).take ((2 * L).toNat - L.toNat))) hq5)
        have r4 : RMat K (upd (upd H4 q4 (.lst ((ys.drop L.toNat).take ((2 * L).toNat - L.toNat)))) q5 (.tup ((ys.drop L.toNat).take ((2 * L).toNat - L.toNat)))) (.ref q5) ((M.drop L.toNat).take ((2 * L).toNat - L.toNat)) :=
          ⟨q5, _, rfl, Sq.tup upd_same, by rw [List.length_take, List.length_take, List.length_drop, List.length_drop, hyl], rep_cut (fun i' y d h1 h2 => RVec.mono _ _ _ _ ((s12.trans t3).trans t5) (hyr i' y d h1 h2)) _ _⟩
        generalize upd (upd H4 q4 (.lst ((ys.drop L.toNat).take ((2 * L).toNat - L.toNat)))) q5 (.tup ((ys.drop L.toNat).take ((2 * L).toNat - L.toNat))) = H5 at t5 r4 ⊢
        refine ⟨(by show 5 ≤ sizeLine; decide), fun q6 hq6 => ?_⟩
        walk_at "go"
        have t6 := Same.new (o := .tup [.int p, .ref q2, ysh, .ref q3, .ref q5]) hq6
        have t56 := t5.trans t6
        have hel : (M.take L.toNat).length = L.toNat := by rw [List.length_take]; omega
        have hol : ((M.drop L.toNat).take ((2 * L).toNat - L.toNat)).length = L.toNat := by rw [List.length_take, List.length_drop]; omega
        refine k _ _ ⟨p, M.take L.toNat, sh, Ls, (M.drop L.toNat).take ((2 * L).toNat - L.toNat)⟩ (((sH1.trans s12).trans t3).trans t56)
          ⟨q6, _, _, _, _, rfl, Sq.tup upd_same, RMat.mono _ _ _ _ t56 r1, RVec.mono _ _ _ _ t56 r2, RSeq.mono (RSeq.mono RMat.mono) _ _ _ _ t56 r3, RMat.mono _ _ _ _ t6 r4⟩
          ⟨p0, p1, by omega, matok_cut hM 0 _, hM _ (List.mem_of_getElem? hsd), hLs, matok_cut hM _ _, by rw [hel]; omega, by rw [hol]; omega, by show Ls.length ≤ 3; omega⟩ rfl (by show ((M.take L.toNat).length : Int) = L; rw [hel]; omega) (by show ((M.drop L.toNat).take _).length = (M.take L.toNat).length; rw [hel, hol]) (by show (Ls.length : Int) = m; omega)

/-! ### _law_row, _law_rows -/
def sp_L_row (K : PySem.W.Frag) : Sp := fun vs H Q _ => ∃ (v v2 : V) (nd : NetD) (rows : List RowD) (l w : Nat), vs = [v, v2, .int (l : Nat)] ∧ RNet K H v nd ∧ NetOk nd w ∧ RSeq true K (RRow K) H v2 rows ∧ (∀ r ∈ rows, RowOk nd w r) ∧ rows.length ≤ 1000 ∧ l < nd.emb.length ∧
  ∀ v' H', Same H H' → RRow K H' v' (rowD nd rows l) → Q v' H'
theorem lstep_len (p : Int) (asked x : List Int) (o : PairD) : (lstep p asked x o).length = x.length := by
  unfold lstep
  rw [List.length_map, List.length_range]
theorem lfold_len {p : Int} {asked : List Int} : ∀ {prs : List PairD} {x : List Int}, (prs.foldl (lstep p asked) x).length = x.length
  | [], x => rfl
  | o :: r, x => by
    show (r.foldl (lstep p asked) (lstep p asked x o)).length = x.length
    rw [lfold_len, lstep_len]
theorem ok_L_row (T : Txt K mg) : FnOk P w K mg base CX0 3 T.a_L_row T.d_L_row ["_law_net_here", "_law_rows_here", "_law_letter"] (sp_L_row K) := by
  refine T.F_L_row.ok sc_L_row (fun vs H Q E h => ?_) (fun cdv A outer s H vs Q E hr h => ?_)
  · obtain ⟨_, _, _, _, _, _, rfl, _⟩ := h
    rfl
  · obtain ⟨v, v2, nd, rows, l, wd, rfl, hN, ok, ⟨ar, rvs, rfl, hR, hRl, hRr⟩, hro, hrz, hl, k⟩ := h
    have hp0 : 0 < nd.p := by have := ok.p2; omega
    have w4 := ok.w4
    have p97 := ok.p97
    obtain ⟨an, v1, v2, v3, v4, rfl, hN1, hE, ⟨ash, rfl, hSh⟩, hLay, hOut⟩ := hN
    obtain ⟨ae, evs, rfl, hE1, hEl, hEr⟩ := hE
    obtain ⟨al, lvs, rfl, hL1, hLl, hLr⟩ := hLay
    obtain ⟨ao, ovs, rfl, hO1, hOl, hOr⟩ := hOut
    refine ⟨_, (pss_cons (ps_set (i := 3) sc_L_row.nd rfl (Or.inr rfl) (pe_ix (k_ix (K := K) rfl) (pv 0) pe_int (fun _ _ => rfl)))
      (pss_cons (ps_set (i := 4) sc_L_row.nd rfl (Or.inr rfl) (pe_lc (own := [("_law_k", 14)]) (g := gName 14) (tt := tYes) rfl sc_L_row.nd (pi_range1 rfl T.z_range (pa_cons (pe_callB (k_lenS (K := K) rfl) (by rfl) T.z_len (by decide +kernel) (pa_cons (pe_ix (k_ix (K := K) rfl) (pv 0) pe_int (fun _ _ => rfl)) pa_nil)) pa_nil)) (blkOk_by (own := [("_law_k", 14)]) (by kernel_rfl)) (fun _ _ _ _ _ => (pg_name (i := 14) sc_L_row.nd rfl (by first | exact Or.inl rfl | exact Or.inr rfl))) (fun _ _ _ _ _ => pts_nil) (fun _ _ _ _ _ => (pe_op op_mod (pe_callTy cr_int1 (by rfl) T.z_int (by decide +kernel) (pa_cons (pe_op (k_addG (K := K) rfl) (pe_ix (k_ix (K := K) rfl) (pe_ix (k_ix (K := K) rfl) (pe_ix (k_ix (K := K) rfl) (pv 0) pe_int (fun _ _ => rfl)) (pv 2) (fun _ _ => rfl)) (pv 14) (fun _ _ => rfl)) (pe_op op_mul (pe_callB (k_lenS (K := K) rfl) (by rfl) T.z_len (by decide +kernel) (pa_cons (pv 1) pa_nil)) (pe_ix (k_ix (K := K) rfl) (pe_ix (k_ix (K := K) rfl) (pv 0) pe_int (fun _ _ => rfl)) (pv 14) (fun _ _ => rfl)))) pa_nil)) (pv 3)))))
      (pss_cons (ps_set (i := 5) sc_L_row.nd rfl (Or.inl rfl) (pe_lst pa_nil))
      (pss_cons (ps_for PassesOwn.never rfl (pi_range1 rfl T.z_range (pa_cons (pe_callB (k_lenS (K := K) rfl) (by rfl) T.z_len (by decide +kernel) (pa_cons (pe_ix (k_ix (K := K) rfl) (pv 0) pe_int (fun _ _ => rfl)) pa_nil)) pa_nil)) (pg_name (i := 6) sc_L_row.nd rfl (Or.inr rfl))
      (pss_cons (ps_set (i := 7) sc_L_row.nd rfl (Or.inl rfl) (pe_ix (k_ix (K := K) rfl) (pe_ix (k_ix (K := K) rfl) (pv 0) pe_int (fun _ _ => rfl)) (pv 6) (fun _ _ => rfl)))
      (pss_cons (ps_set (i := 8) sc_L_row.nd rfl (Or.inl rfl) (pe_call (ok_L_times T) (hr.mono (by decide)) (by rfl) T.g_L_times T.F_L_times.kp T.b_L_times .nil pass0 (pa_cons (pe_ix (k_ix (K := K) rfl) (pv 7) pe_int (fun _ _ => rfl)) (pa_cons (pv 4) (pa_cons (pv 3) pa_nil)))))
      (pss_cons (ps_set (i := 9) sc_L_row.nd rfl (Or.inl rfl) (pe_tup (pa_cons (pe_callTy (k_tupS (K := K) rfl) (by rfl) T.z_tuple (by decide +kernel) (pa_cons (pe_call (ok_L_times T) (hr.mono (by decide)) (by rfl) T.g_L_times T.F_L_times.kp T.b_L_times .nil pass0 (pa_cons (pe_ix (k_ix (K := K) rfl) (pv 7) pe_int (fun _ _ => rfl)) (pa_cons (pv 4) (pa_cons (pv 3) pa_nil)))) pa_nil)) (pa_cons (pe_callTy (k_tupS (K := K) rfl) (by rfl) T.z_tuple (by decide +kernel) (pa_cons (pe_call (ok_L_times T) (hr.mono (by decide)) (by rfl) T.g_L_times T.F_L_times.kp T.b_L_times .nil pass0 (pa_cons (pe_ix (k_ix (K := K) rfl) (pv 7) pe_int (fun _ _ => rfl)) (pa_cons (pv 4) (pa_cons (pv 3) pa_nil)))) pa_nil)) pa_nil))))
      (pss_cons (ps_for PassesOwn.never rfl (k_seqS (K := K) rfl (pe_op (k_addG (K := K) rfl) (pe_lc (own := [("_law_row_here", 16)]) (g := gName 16) (tt := tYes) rfl sc_L_row.nd (k_seqS (K := K) rfl (pv 1)) (blkOk_by (own := [("_law_row_here", 16)]) (by kernel_rfl)) (fun _ _ _ _ _ => (pg_name (i := 16) sc_L_row.nd rfl (by first | exact Or.inl rfl | exact Or.inr rfl))) (fun _ _ _ _ _ => pts_nil) (fun _ _ _ _ _ => (pe_ix (k_ix (K := K) rfl) (pe_ix (k_ix (K := K) rfl) (pv 16) pe_int (fun _ _ => rfl)) (pv 6) (fun _ _ => rfl)))) (pe_lst (pa_cons (pv 9) pa_nil)))) (pg_name (i := 10) sc_L_row.nd rfl (Or.inr rfl))
      (pss_cons (ps_set (i := 11) sc_L_row.nd rfl (Or.inr rfl) (pe_call (ok_L_dot T) (hr.mono (by decide)) (by rfl) T.g_L_dot T.F_L_dot.kp T.b_L_dot .nil pass0 (pa_cons (pv 8) (pa_cons (pe_ix (k_ix (K := K) rfl) (pv 10) pe_int (fun _ _ => rfl)) (pa_cons (pv 3) pa_nil)))))
      (pss_one (ps_set (i := 4) sc_L_row.nd rfl (Or.inr rfl) (pe_lc (own := [("_law_k", 14)]) (g := gName 14) (tt := tYes) rfl sc_L_row.nd (pi_range1 rfl T.z_range (pa_cons (pe_callB (k_lenS (K := K) rfl) (by rfl) T.z_len (by decide +kernel) (pa_cons (pv 4) pa_nil)) pa_nil)) (blkOk_by (own := [("_law_k", 14)]) (by kernel_rfl)) (fun _ _ _ _ _ => (pg_name (i := 14) sc_L_row.nd rfl (by first | exact Or.inl rfl | exact Or.inr rfl))) (fun _ _ _ _ _ => pts_nil) (fun _ _ _ _ _ => (pe_op op_mod (pe_callTy cr_int1 (by rfl) T.z_int (by decide +kernel) (pa_cons (pe_op (k_addG (K := K) rfl) (pe_ix (k_ix (K := K) rfl) (pv 4) (pv 14) (fun _ _ => rfl)) (pe_op op_mul (pv 11) (pe_ix (k_ix (K := K) rfl) (pe_ix (k_ix (K := K) rfl) (pv 10) pe_int (fun _ _ => rfl)) (pv 14) (fun _ _ => rfl)))) pa_nil)) (pv 3))))))))
      (pss_cons (ps_setLc (i := 12) (own := [("_law_one", 15)]) (g := gName 15) (tt := tYes) rfl sc_L_row.nd rfl rfl (sw_true rfl rfl rfl (by decide +kernel)) (k_seqS (K := K) rfl (pe_call (ok_L_times T) (hr.mono (by decide)) (by rfl) T.g_L_times T.F_L_times.kp T.b_L_times .nil pass0 (pa_cons (pe_ix (k_ix (K := K) rfl) (pv 7) pe_int (fun _ _ => rfl)) (pa_cons (pv 4) (pa_cons (pv 3) pa_nil))))) (blkOk_by (own := [("_law_one", 15)]) (by kernel_rfl)) (fun _ _ _ _ _ => (pg_name (i := 15) sc_L_row.nd rfl (by first | exact Or.inl rfl | exact Or.inr rfl))) (fun _ _ _ _ _ => pts_nil) (fun _ _ _ _ _ => (pe_op op_mul (pv 15) (pv 15))))
      (pss_cons (ps_set (i := 13) sc_L_row.nd rfl (Or.inr rfl) (pe_call (ok_L_times T) (hr.mono (by decide)) (by rfl) T.g_L_times T.F_L_times.kp T.b_L_times .nil pass0 (pa_cons (pe_ix (k_ix (K := K) rfl) (pv 7) pe_int (fun _ _ => rfl)) (pa_cons (pv 12) (pa_cons (pv 3) pa_nil)))))
      (pss_cons (ps_set (i := 4) sc_L_row.nd rfl (Or.inr rfl) (pe_lc (own := [("_law_k", 14)]) (g := gName 14) (tt := tYes) rfl sc_L_row.nd (pi_range1 rfl T.z_range (pa_cons (pe_callB (k_lenS (K := K) rfl) (by rfl) T.z_len (by decide +kernel) (pa_cons (pv 4) pa_nil)) pa_nil)) (blkOk_by (own := [("_law_k", 14)]) (by kernel_rfl)) (fun _ _ _ _ _ => (pg_name (i := 14) sc_L_row.nd rfl (by first | exact Or.inl rfl | exact Or.inr rfl))) (fun _ _ _ _ _ => pts_nil) (fun _ _ _ _ _ => (pe_op op_mod (pe_callTy cr_int1 (by rfl) T.z_int (by decide +kernel) (pa_cons (pe_op (k_addG (K := K) rfl) (pe_ix (k_ix (K := K) rfl) (pv 4) (pv 14) (fun _ _ => rfl)) (pe_ix (k_ix (K := K) rfl) (pv 13) (pv 14) (fun _ _ => rfl))) pa_nil)) (pv 3)))))
      (pss_one (ps_expr (k_bm (K := K) rfl PySem.F.plainAttrs_list PySem.F.slot_list_append PySem.F.type_list_append mt_append (pv 5) (pa_cons (pv 9) pa_nil))))))))))))
      (pss_one (ps_ret (pe_tup (pa_cons (pe_callTy (k_tupS (K := K) rfl) (by rfl) T.z_tuple (by decide +kernel) (pa_cons (pv 5) pa_nil)) (pa_cons (pe_callTy (k_tupS (K := K) rfl) (by rfl) T.z_tuple (by decide +kernel) (pa_cons (pe_lc (own := [("_law_one", 15)]) (g := gName 15) (tt := tYes) rfl sc_L_row.nd (k_seqS (K := K) rfl (pe_ix (k_ix (K := K) rfl) (pv 0) pe_int (fun _ _ => rfl))) (blkOk_by (own := [("_law_one", 15)]) (by kernel_rfl)) (fun _ _ _ _ _ => (pg_name (i := 15) sc_L_row.nd rfl (by first | exact Or.inl rfl | exact Or.inr rfl))) (fun _ _ _ _ _ => pts_nil) (fun _ _ _ _ _ => (pe_op (k_addG (K := K) rfl) (pe_call (ok_L_dot T) (hr.mono (by decide)) (by rfl) T.g_L_dot T.F_L_dot.kp T.b_L_dot .nil pass0 (pa_cons (pv 15) (pa_cons (pv 4) (pa_cons (pv 3) pa_nil)))) pe_int))) pa_nil)) pa_nil))))))))), ?_⟩
    refine go_start (σ' := [some (.ref an), some (.ref ar), some (.int (l : Nat)), none, none, none, none, none, none, none, none, none, none, none, none, none, none]) rfl ?_
    try dsimp only [cxOf, Cx.nox, Cx.wish]
    have hel : nd.emb[l]? = some (nd.emb.getD l []) := by
      rw [List.getD_eq_getElem?_getD, List.getElem?_eq_getElem hl]
      rfl
    obtain ⟨ye, hye, ⟨aye, rfl, hye2⟩⟩ := RSeq.get hEl hEr hel
    have hew : (nd.emb.getD l []).length = wd := (ok.emb _ (List.mem_of_getElem? hel)).1
    have hsl := ok.sh.1
    have hx0 := startX_ok ok (rows := rows) hl
    have hxs : startX nd rows l = vplus nd.p (nd.emb.getD l []) (nd.sh.map fun n => (rows.length : Int) * n) := rfl
    walk_at "go"
    refine w_ix hN1 (atI_nat (j := 0) rfl) ?_
    walk_at "go"
    refine w_ix hN1 (atI_nat (j := 2) rfl) ?_
    walk_at "go"
    refine c_intsR (by omega) (by omega) (startX nd rows l) (by rw [hx0.1, hsl]; omega) (fun _ => rfl) (fun i H1 N hi sm hN2 => ?_) (fun ax0 H1 hax0 s1 e1 => ?_)
    · walk_at "go"
      refine w_ix (sm.sq hN1) (atI_nat (j := 1) rfl) ?_
      walk_at "go"
      refine w_ix (sm.sq hE1) (atI_nat hye) ?_
      walk_at "go"
      refine w_ix (sm.sq hN1) (atI_nat (j := 2) rfl) ?_
      walk_at "go"
      have en : nth (startX nd rows l) ((i : Nat) : Int) = (nth (nd.emb.getD l []) (i : Nat) + (rows.length : Int) * nth nd.sh (i : Nat)) % nd.p := by
        rw [hxs]
        unfold vplus
        rw [nth_zip (by omega) (by rw [List.length_map]; omega), nth_map (by omega)]
      rw [hRl, ← en]
      exact hN2 _ (Same.refl _)
    walk_at "go"
    refine ⟨Nat.zero_le _, fun D hD => ?_⟩
    have n1 : ax0 ≠ D := ne_of_none e1 hD
    have e1' : (upd H1 D (.lst [])) ax0 = some (.lst ((startX nd rows l).map V.int)) := (upd_ne n1).trans e1
    have s1' : Same H (upd H1 D (.lst [])) := s1.trans (Same.new hD)
    walk_at "go"
    refine w_ix (s1'.sq hN1) (atI_nat (j := 3) rfl) ?_
    walk_at "go"
    refine l_range (fun i σ H' => ∃ (ax : Addr) (y6 y7 y8 y9 y10 y11 y12 y13 : Option V), σ = [some (.ref an), some (.ref ar), some (.int (l : Nat)), some (.int nd.p), some (.ref ax), some (.ref D), y6, y7, y8, y9, y10, y11, y12, y13, none, none, none] ∧ ax ≠ D ∧
        H' ax = some (.lst ((rowSt nd rows (startX nd rows l) i).2.map V.int)) ∧ Filled (RPr K) H1 H' D (rowSt nd rows (startX nd rows l) i).1)
      (by have := ok.l3; omega) (by have := ok.l3; omega) ⟨ax0, none, none, none, none, none, none, none, none, rfl, n1, e1', Filled.nil hD⟩ ?_ ?_
    · rintro i σ H' hi ⟨ax, y6, y7, y8, y9, y10, y11, y12, y13, rfl, nax, hxv, f⟩
      have hi' : i < nd.lay.length := by omega
      have hL : nd.lay[i]? = some (nd.lay.getD i []) := by
        rw [List.getD_eq_getElem?_getD, List.getElem?_eq_getElem hi']
        rfl
      generalize eL : nd.lay.getD i [] = L at hL
      obtain ⟨hL5, hLm⟩ := ok.lay L (List.mem_of_getElem? hL)
      obtain ⟨st1, st2, st3, st4⟩ := rowSt_ok ok hro hx0 i (by omega)
      generalize ex : (rowSt nd rows (startX nd rows l) i).2 = x at hxv st3 st4
      have s3 := s1.trans f.same
      obtain ⟨yl, hyl, hy5⟩ := RSeq.get hLl hLr hL
      have hy5 := RSeq.mono RMat.mono _ _ _ _ s3 hy5
      rw [five_of hL5] at hy5
      obtain ⟨a5, q0, q1, q2, q3, q4, rfl, h5, m0, m1, m2, m3, m4⟩ := RSeq.five hy5
      have hM : ∀ j : Nat, j < 5 → (mt L j).length = wd ∧ MatOk nd.p wd (mt L j) := fun j hj => (mt_ok ⟨hL5, hLm⟩ hj).2
      have hx3 : RVecX K H' (.ref ax) x := ⟨true, ax, rfl, Sq.lst hxv⟩
      walk_at "go"
      refine w_ix (s3.sq hN1) (atI_nat (j := 3) rfl) ?_
      walk_at "go"
      refine w_ix (s3.sq hL1) (atI_nat hyl) ?_
      walk_at "go"
      refine w_ix h5 (atI_nat (j := 0) rfl) ?_
      walk_at "go"
      refine ⟨_, _, _, x, _, rfl, m0, hx3, mat_bd p97 (hM 0 (by omega)).2 st3, by rw [(hM 0 (by omega)).1]; omega, by omega, hp0, fun Dq H4 hDq s4 eq4 => ?_⟩
      walk_at "go"
      -- pair
      refine w_ix (s4.sq h5) (atI_nat (j := 1) rfl) ?_
      walk_at "go"
      refine ⟨_, _, _, x, _, rfl, RMat.mono _ _ _ _ s4 m1, RVecX.mono _ _ _ _ s4 hx3, mat_bd p97 (hM 1 (by omega)).2 st3, by rw [(hM 1 (by omega)).1]; omega, by omega, hp0, fun Dk H5 hDk s5 ek => ?_⟩
      walk_at "go"
      refine w_tupL (Sq.lst ek) fun tk htk => ?_
      have s6 := Same.new (o := .tup ((vtimes nd.p (mt L 1) x).map V.int)) htk
      have rk : RVec false K (upd H5 tk (.tup ((vtimes nd.p (mt L 1) x).map V.int))) (.ref tk) (vtimes nd.p (mt L 1) x) := ⟨tk, rfl, Sq.tup upd_same⟩
      have s46 := (s4.trans s5).trans s6
      generalize upd H5 tk (.tup ((vtimes nd.p (mt L 1) x).map V.int)) = H6 at s6 rk s46 ⊢
      walk_at "go"
      refine w_ix (s46.sq h5) (atI_nat (j := 2) rfl) ?_
      walk_at "go"
      refine ⟨_, _, _, x, _, rfl, RMat.mono _ _ _ _ s46 m2, RVecX.mono _ _ _ _ s46 hx3, mat_bd p97 (hM 2 (by omega)).2 st3, by rw [(hM 2 (by omega)).1]; omega, by omega, hp0, fun Dv H7 hDv s7 ev => ?_⟩
      walk_at "go"
      refine w_tupL (Sq.lst ev) fun tv htv => ?_
      have s8 := Same.new (o := .tup ((vtimes nd.p (mt L 2) x).map V.int)) htv
      have rv : RVec false K (upd H7 tv (.tup ((vtimes nd.p (mt L 2) x).map V.int))) (.ref tv) (vtimes nd.p (mt L 2) x) := ⟨tv, rfl, Sq.tup upd_same⟩
      have rk := RVec.mono _ _ _ _ (s7.trans s8) rk
      have s48 := s46.trans (s7.trans s8)
      have eq8 := ((s5.trans s6).trans (s7.trans s8)) _ _ eq4
      generalize upd H7 tv (.tup ((vtimes nd.p (mt L 2) x).map V.int)) = H8 at rv rk s48 eq8 ⊢
      walk_at "go"
      refine ⟨(by show 2 ≤ sizeLine; decide), fun ap hap => ?_⟩
      walk_at "go"
      have s9 : Same H8 (upd H8 ap (.tup [.ref tk, .ref tv])) := Same.new hap
      have hpair : RPr K (upd H8 ap (.tup [.ref tk, .ref tv])) (.ref ap) (pairOf nd.p L x) := ⟨ap, _, _, rfl, Sq.tup upd_same, RVec.mono _ _ _ _ s9 rk, RVec.mono _ _ _ _ s9 rv⟩
      have s49 := s48.trans s9
      have eq9 := s9 _ _ eq8
      generalize upd H8 ap (.tup [.ref tk, .ref tv]) = H9 at s9 hpair s49 eq9 ⊢
      have s09 := s3.trans s49
      -- the pairs looked at
      refine c_rep (R := RPr K) RPr.mono RPr.tup rvs (s09.sq hR) (prsAt rows i) (by unfold prsAt; rw [List.length_map, hRl]) (line_of (by omega)) (fun _ => rfl) (fun j z d H10 N hj hz hd s10 hN2 => ?_) (fun D7 H10 ys hD7 s10 e10 hyl2 hyr2 => ?_)
      · have hrj : rows[j]? = some (rows[j]'(by omega)) := List.getElem?_eq_getElem (by omega)
        generalize rows[j]'(by omega) = r at hrj
        have ed : d = r.1.getD i ([], []) := by
          unfold prsAt at hd
          rw [List.getElem?_map, hrj] at hd
          exact (Option.some.inj hd).symm
        obtain ⟨az, z1, z2, rfl, hz1, ⟨ap1, pvs, rfl, hp1, hpl, hpr⟩, _⟩ := RRow.mono _ _ _ _ (s09.trans s10) (hRr j z r hz hrj)
        have hr1 : r.1[i]? = some (r.1.getD i ([], [])) := by
          rw [List.getD_eq_getElem?_getD, List.getElem?_eq_getElem (by rw [(hro r (List.mem_of_getElem? hrj)).1]; exact hi')]
          rfl
        obtain ⟨yp, hyp, rp⟩ := RSeq.get hpl hpr hr1
        walk_at "go"
        refine w_ix hz1 (atI_nat (j := 0) rfl) ?_
        walk_at "go"
        refine w_ix hp1 (atI_nat hyp) ?_
        exact hN2 _ _ (Same.refl _) (by rw [ed]; exact rp)
      walk_at "go"
      refine ⟨(by show 1 ≤ sizeLine; decide), fun b1 hb1 => ?_⟩
      have s11 := s10.trans (Same.new (o := .lst [.ref ap]) hb1)
      have hlen7 : ys.length = rows.length := by rw [hyl2]; exact List.length_map ..
      refine w_catLL (Same.at (Same.new hb1) e10) upd_same (by rw [sizeLine_eq]; simp only [List.length_cons, List.length_nil]; omega) fun b2 hb2 => ?_
      have s12 := s11.trans (Same.new (o := .lst (ys ++ [.ref ap])) hb2)
      have hprs : RSeq true K (RPr K) (upd (upd H10 b1 (.lst [.ref ap])) b2 (.lst (ys ++ [.ref ap]))) (.ref b2) (prsAt rows i ++ [pairOf nd.p L x]) := by
        refine ⟨b2, _, rfl, Sq.lst upd_same, by rw [List.length_append, List.length_append, hyl2]; rfl, fun j y' d' h1 h2 => ?_⟩
        by_cases hj : j < ys.length
        · rw [List.getElem?_append_left hj] at h1
          rw [List.getElem?_append_left (by omega)] at h2
          exact RPr.mono _ _ _ _ ((Same.new hb1).trans (Same.new hb2)) (hyr2 j y' d' h1 h2)
        · have h3 := (List.getElem?_eq_some_iff.mp h1).1
          rw [List.length_append] at h3
          have ej : j = ys.length := by
            have : j < ys.length + 1 := h3
            omega
          subst ej
          rw [List.getElem?_append_right (Nat.le_refl _), Nat.sub_self] at h1
          rw [hyl2, List.getElem?_append_right (Nat.le_refl _), Nat.sub_self] at h2
          cases h1
          cases h2
          exact RPr.mono _ _ _ _ s12 hpair
      generalize upd (upd H10 b1 (.lst [.ref ap])) b2 (.lst (ys ++ [.ref ap])) = H12 at s12 hprs ⊢
      have hprok := prsAt_ok hro (i := i) hi'
      have hpo := pairOf_ok (x := x) hp0 ⟨hL5, hLm⟩
      have hall : ∀ o ∈ prsAt rows i ++ [pairOf nd.p L x], PairOk nd.p wd o := fun o ho => by
        rcases List.mem_append.mp ho with h | h
        · exact hprok o h
        · rw [List.mem_singleton.mp h]; exact hpo
      have hml := mid_law hp0 ⟨hL5, hLm⟩ hprok ⟨st3, st4⟩
      have hal : (vtimes nd.p (mt L 0) x).length = wd := by rw [vtimes_len]; exact (hM 0 (by omega)).1
      have hab := (vtimes_sml hp0 (mt L 0) x).bd p97
      generalize hask : vtimes nd.p (mt L 0) x = asked at hml hal hab eq9 ⊢
      generalize hpp : prsAt rows i ++ [pairOf nd.p L x] = prs at hprs hall hml ⊢
      have s312 := s49.trans s12
      have s012 := s3.trans s312
      have eq12 := s12 _ _ eq9
      have hx12 := s312 _ _ hxv
      have f12 := f.mono RPr.mono s312
      obtain ⟨ab, bvs, eab, hb1s, hbl, hbr⟩ := hprs
      cases eab
      walk_at "go"
      refine l_seq (b := true) bvs (fun j σ H' => ∃ (ax' : Addr) (y10 y11 : Option V), σ = [some (.ref an), some (.ref ar), some (.int (l : Nat)), some (.int nd.p), some (.ref ax'), some (.ref D), some (.int (i : Nat)), some (.ref a5), some (.ref Dq), some (.ref ap), y10, y11, y12, y13, none, none, none] ∧ ax' ≠ D ∧
          H' ax' = some (.lst (((prs.take j).foldl (lstep nd.p asked) x).map V.int)) ∧ Same H12 H')
        hb1s ⟨ax, _, _, rfl, nax, by rw [List.take_zero]; exact hx12, Same.refl _⟩ (fun j σ H' _ ⟨_, _, _, _, _, _, sm⟩ => sm.sq hb1s) ?_ ?_
      · rintro j y σ H' hj hyj ⟨ax', y10, y11, rfl, nax', hxj, sm⟩
        have hoj : prs[j]? = some (prs[j]'(by omega)) := List.getElem?_eq_getElem (by omega)
        generalize prs[j]'(by omega) = o at hoj
        obtain ⟨ho1, ho2⟩ := hall o (List.mem_of_getElem? hoj)
        obtain ⟨ay, k1, k2, rfl, hay, ⟨ak1, rfl, hk1⟩, ⟨ak2, rfl, hk2⟩⟩ := RPr.mono _ _ _ _ sm (hbr j y o hyj hoj)
        generalize hcur : (prs.take j).foldl (lstep nd.p asked) x = cur at hxj
        have hcl : cur.length = wd := by rw [← hcur, lfold_len, st3]
        walk_at "go"
        refine w_ix hay (atI_nat (j := 0) rfl) ?_
        walk_at "go"
        refine ⟨_, _, asked, o.1, _, rfl, ⟨true, Dq, rfl, Sq.lst (sm _ _ eq12)⟩, ⟨false, ak1, rfl, hk1⟩, by rw [hal, ho1.1], by omega, hab, hp0, ?_⟩
        have hn0 : 0 ≤ dot asked o.1 % nd.p := Int.emod_nonneg _ (by omega)
        have hn1 : dot asked o.1 % nd.p < nd.p := Int.emod_lt_of_pos _ hp0
        have hld : ldot nd.p asked o.1 = dot asked o.1 % nd.p := ldot_eq (by rw [hal, ho1.1])
        rw [← hld] at hn0 hn1 ⊢
        generalize hnr : ldot nd.p asked o.1 = near at hn0 hn1 ⊢
        walk_at "go"
        refine c_intsR (by omega) (by omega) (lstep nd.p asked cur o) (by rw [lstep_len]; omega) (fun _ => rfl) (fun i2 H13 N hi2 s13 hN2 => ?_) (fun ax2 H13 hax2 s13 e13 => ?_)
        · have ho2l := ho2.1
          walk_at "go"
          refine w_ix (s13.sq hay) (atI_nat (j := 1) rfl) ?_
          walk_at "go"
          have en : nth (lstep nd.p asked cur o) ((i2 : Nat) : Int) = (nth cur (i2 : Nat) + near * nth o.2 (i2 : Nat)) % nd.p := by
            unfold lstep
            rw [nth_range (by omega), hnr]
          rw [← en]
          exact hN2 _ (Same.refl _)
        walk_at "go"
        obtain ⟨fys, fe, _, _⟩ := (f12.mono RPr.mono sm).at_
        refine ⟨ax2, _, _, rfl, (ne_of_none fe hax2).symm, ?_, sm.trans s13⟩
        rw [List.take_add_one, hoj]
        show H13 ax2 = some (HO.lst (((prs.take j ++ [o]).foldl (lstep nd.p asked) x).map V.int))
        rw [List.foldl_append, hcur]
        exact e13
      · rintro σ H13 ⟨ax', y10, y11, rfl, nax', hxj, s13⟩
        rw [hbl, List.take_length, hml] at hxj
        have hmidl := midOf_len (x := x) hp0 ⟨hL5, hLm⟩ hprok st3
        generalize hmd : midOf nd.p L (prsAt rows i) x = mid at hxj hmidl
        have s313 := s312.trans s13
        have hx13 : RVecX K H13 (.ref ax') mid := ⟨true, ax', rfl, Sq.lst hxj⟩
        walk_at "go"
        refine w_ix (s313.sq h5) (atI_nat (j := 3) rfl) ?_
        walk_at "go"
        refine ⟨_, _, _, mid, _, rfl, RMat.mono _ _ _ _ s313 m3, hx13, mat_bd p97 (hM 3 (by omega)).2 hmidl, by rw [(hM 3 (by omega)).1]; omega, by omega, hp0, fun Df H14 hDf s14 e14 => ?_⟩
        have hfl : (vtimes nd.p (mt L 3) mid).length = wd := by rw [vtimes_len]; exact (hM 3 (by omega)).1
        have hsq : sqOf nd.p L mid = (vtimes nd.p (mt L 3) mid).map fun a => a * a := rfl
        have hfb := (vtimes_sml (p := nd.p) hp0 (mt L 3) mid).bd p97
        generalize hfv : vtimes nd.p (mt L 3) mid = fv at hfl hsq hfb e14
        walk_at "go"
        refine c_ints (fv.map V.int) (Sq.lst e14) (sqOf nd.p L mid) (by rw [hsq, List.length_map, List.length_map]) (line_of (by rw [List.length_map]; omega)) (fun _ => rfl) (fun j z H15 N hj hz s15 hN2 => ?_) (fun Ds H15 hDs s15 e15 => ?_)
        · obtain ⟨rfl, hj1⟩ := vec_at hz
          have hb := hfb _ (nth_mem (i := ((j : Nat) : Int)) (by omega) (by omega))
          walk_at "go"
          have en : nth (sqOf nd.p L mid) ((j : Nat) : Int) = nth fv (j : Nat) * nth fv (j : Nat) := by
            rw [hsq]
            exact nth_map (f := fun a => a * a) hj1
          rw [← en]
          exact hN2 _ (Same.refl _)
        have hsl2 : (sqOf nd.p L mid).length = wd := by rw [hsq, List.length_map]; exact hfl
        have s1315 := s14.trans s15
        have s315 := s313.trans s1315
        walk_at "go"
        refine w_ix (s315.sq h5) (atI_nat (j := 4) rfl) ?_
        walk_at "go"
        refine ⟨_, _, _, sqOf nd.p L mid, _, rfl, RMat.mono _ _ _ _ s315 m4, ⟨true, Ds, rfl, Sq.lst e15⟩, mat_bd p97 (hM 4 (by omega)).2 hsl2, by rw [(hM 4 (by omega)).1]; omega, by omega, hp0, fun Dm H16 hDm s16 e16 => ?_⟩
        have hnx : nextOf nd.p L (prsAt rows i) x = vplus nd.p mid (vtimes nd.p (mt L 4) (sqOf nd.p L mid)) := by
          unfold nextOf
          rw [hmd]
        have hmol : (vtimes nd.p (mt L 4) (sqOf nd.p L mid)).length = wd := by rw [vtimes_len]; exact (hM 4 (by omega)).1
        generalize hmo : vtimes nd.p (mt L 4) (sqOf nd.p L mid) = more at hnx hmol e16
        have s1316 := s1315.trans s16
        have hxj16 := s1316 _ _ hxj
        walk_at "go"
        refine c_intsR (by omega) (by omega) (nextOf nd.p L (prsAt rows i) x) (by rw [hnx, vplus_len (by omega)]; omega) (fun _ => rfl) (fun i2 H17 N hi2 s17 hN2 => ?_) (fun ax2 H17 hax2 s17 e17 => ?_)
        · walk_at "go"
          have en : nth (nextOf nd.p L (prsAt rows i) x) ((i2 : Nat) : Int) = (nth mid (i2 : Nat) + nth more (i2 : Nat)) % nd.p := by
            rw [hnx]
            unfold vplus
            rw [nth_zip (by omega) (by omega)]
          rw [← en]
          exact hN2 _ (Same.refl _)
        have s1217 := (s13.trans s1316).trans s17
        have f17 := f12.mono RPr.mono s1217
        have f16 := f12.mono RPr.mono (s13.trans s1316)
        obtain ⟨fys, fe, _, _⟩ := f16.at_
        have nax2 : ax2 ≠ D := (ne_of_none fe hax2).symm
        obtain ⟨fys2, fe2, _, _⟩ := f17.at_
        obtain ⟨ys', e', hl', fp⟩ := f17.push (RPr.tup _ _ _ _ (NTup.lst fe2) (RPr.mono _ _ _ _ (s12.trans s1217) hpair))
        walk_at "go"
        refine w_append e' (line_of (by rw [hl', st1]; have := ok.l3; omega)) ?_
        walk_at "go"
        have h1 : (rowSt nd rows (startX nd rows l) (i + 1)).2 = nextOf nd.p L (prsAt rows i) x := by
          show nextOf nd.p (nd.lay.getD i []) (prsAt rows i) (rowSt nd rows (startX nd rows l) i).2 = _
          rw [eL, ex]
        have h2 : (rowSt nd rows (startX nd rows l) (i + 1)).1 = (rowSt nd rows (startX nd rows l) i).1 ++ [pairOf nd.p L x] := by
          show (rowSt nd rows (startX nd rows l) i).1 ++ [pairOf nd.p (nd.lay.getD i []) (rowSt nd rows (startX nd rows l) i).2] = _
          rw [eL, ex]
        refine ⟨ax2, _, _, _, _, _, _, _, _, rfl, nax2, ?_, ?_⟩
        · rw [h1, upd_ne nax2]
          exact e17
        · rw [h2]
          exact fp
    · rintro σ H' ⟨ax, y6, y7, y8, y9, y10, y11, y12, y13, rfl, nax, hxv, f⟩
      rw [show ((lvs.length : Nat) : Int).toNat = nd.lay.length by omega] at hxv f
      obtain ⟨st1, st2, st3, st4⟩ := rowSt_ok ok hro hx0 nd.lay.length (Nat.le_refl _)
      have s3 := s1.trans f.same
      obtain ⟨a4, ys4, e4', hS4, hl4, hr4⟩ := f.seq RPr.mono (K := K)
      cases e4'
      have e3 : (lastSt nd rows l).2 = (rowSt nd rows (startX nd rows l) nd.lay.length).2 := rfl
      rw [← e3] at hxv st3
      walk_at "go"
      refine w_tupL hS4 fun t1 ht1 => ?_
      have s4 : Same H' (upd H' t1 (.tup ys4)) := Same.new ht1
      have r1 : RSeq false K (RPr K) (upd H' t1 (.tup ys4)) (.ref t1) (rowSt nd rows (startX nd rows l) nd.lay.length).1 := ⟨t1, ys4, rfl, Sq.tup upd_same, hl4, fun i y d h1 h2 => RPr.mono _ _ _ _ s4 (hr4 i y d h1 h2)⟩
      generalize upd H' t1 (.tup ys4) = H4 at s4 r1 ⊢
      have s04 := s3.trans s4
      have hx4 := s4 _ _ hxv
      walk_at "go"
      refine w_ix (s04.sq hN1) (atI_nat (j := 4) rfl) ?_
      walk_at "go"
      refine c_ints ovs (s04.sq hO1) (rowD nd rows l).2 (by show (nd.out.map _).length = _; rw [List.length_map, hOl]) (line_of (by have := ok.o12; omega)) (fun _ => rfl) (fun j y H5 N hj hy s5 hN2 => ?_) (fun D5 H5 hD5 s5 e5 => ?_)
      · have hd : nd.out[j]? = some (nd.out[j]'(by omega)) := List.getElem?_eq_getElem (by omega)
        have ho := ok.out _ (List.mem_of_getElem? hd)
        walk_at "go"
        refine ⟨_, _, _, (lastSt nd rows l).2, _, rfl, ⟨false, RVec.mono _ _ _ _ (s04.trans s5) (hOr j y _ hy hd)⟩, ⟨true, ax, rfl, Sq.lst (s5 _ _ hx4)⟩, by rw [ho.1, st3], by rw [ho.1]; omega, ho.2.bd ok.p97, hp0, ?_⟩
        walk_at "go"
        have en : nth (rowD nd rows l).2 ((j : Nat) : Int) = dot (nd.out[j]'(by omega)) (lastSt nd rows l).2 % nd.p + 1 := (nth_mapG (f := fun v => 1 + dot v (lastSt nd rows l).2 % nd.p) hd).trans (Int.add_comm ..)
        rw [← en]
        exact hN2 _ (Same.refl _)
      walk_at "go"
      refine w_tupL (Sq.lst e5) fun t2 ht2 => ?_
      walk_at "go"
      have s6 := Same.new (o := .tup ((rowD nd rows l).2.map V.int)) ht2
      refine ⟨(by show 2 ≤ sizeLine; decide), fun t3 ht3 => ?_⟩
      walk_at "go"
      have s7 := Same.new (o := .tup [.ref t1, .ref t2]) ht3
      exact k _ _ ((s04.trans s5).trans (s6.trans s7)) ⟨t3, .ref t1, .ref t2, rfl, Sq.tup upd_same, RSeq.mono RPr.mono _ _ _ _ (s5.trans (s6.trans s7)) r1, ⟨t2, rfl, s7.sq (Sq.tup upd_same)⟩⟩

def sp_L_rowsF (K : PySem.W.Frag) : Sp := fun vs H Q _ => ∃ (v v2 : V) (nd : NetD) (ls : List Nat) (w : Nat), vs = [v, v2] ∧ RNet K H v nd ∧ NetOk nd w ∧ RVecX K H v2 (natI ls) ∧ (∀ l ∈ ls, l < nd.emb.length) ∧ ls.length ≤ 1000 ∧
  ∀ D H', Filled (RRow K) H H' D (rowsD nd ls []) → Q (.ref D) H'
theorem ok_L_rowsF (T : Txt K mg) : FnOk P w K mg base CX0 4 T.a_L_rows T.d_L_rows ["_law_net_here", "_law_letters"] (sp_L_rowsF K) := by
  refine T.F_L_rows.ok sc_L_rows (fun vs H Q E h => ?_) (fun cdv A outer s H vs Q E hr h => ?_)
  · obtain ⟨_, _, _, _, _, rfl, _⟩ := h
    rfl
  · obtain ⟨v, v2, nd, ls, wd, rfl, hN, ok, ⟨b, a, rfl, hS⟩, hls, hz, k⟩ := h
    refine ⟨_, (pss_cons (ps_set (i := 2) sc_L_rows.nd rfl (Or.inl rfl) (pe_lst pa_nil))
      (pss_cons (ps_for PassesOwn.never rfl (k_seqS (K := K) rfl (pv 1)) (pg_name (i := 3) sc_L_rows.nd rfl (Or.inl rfl))
      (pss_one (ps_expr (k_bm (K := K) rfl PySem.F.plainAttrs_list PySem.F.slot_list_append PySem.F.type_list_append mt_append (pv 2) (pa_cons (pe_call (ok_L_row T) (hr.mono (by decide)) (by rfl) T.g_L_row T.F_L_row.kp T.b_L_row .nil pass0 (pa_cons (pv 0) (pa_cons (pv 2) (pa_cons (pv 3) pa_nil)))) pa_nil)))))
      (pss_one (ps_ret (pv 2))))), ?_⟩
    refine go_start (σ' := [some v, some (.ref a), none, none]) rfl ?_
    walk_at "go"
    refine ⟨Nat.zero_le _, fun ol hol => ?_⟩
    walk_at "go"
    refine l_seq (b := b) ((natI ls).map V.int) (fun i σ H' => ∃ y3 : Option V, σ = [some v, some (.ref a), some (.ref ol), y3] ∧ Filled (RRow K) H H' ol (rowsD nd (ls.take i) []))
      ((Same.new hol).sq hS) ⟨none, rfl, Filled.nil hol⟩ (fun i σ H' _ ⟨_, _, f⟩ => f.same.sq hS) ?_ ?_
    · rintro i x σ H' hi hx ⟨y3, rfl, f⟩
      obtain ⟨l, hl, rfl⟩ := natI_at hx
      have hli : i < ls.length := (List.getElem?_eq_some_iff.mp hl).1
      obtain ⟨ys, e1, hl1, _⟩ := f.at_
      have hlen : (rowsD nd (ls.take i) []).length = i := by rw [rowsD_len, List.length_take]; simp only [List.length_nil]; omega
      walk_at "go"
      refine ⟨_, _, nd, rowsD nd (ls.take i) [], l, wd, rfl, RNet.mono _ _ _ _ f.same hN, ok, f.seq RRow.mono, rowsD_ok ok _ _ (fun l' hm => hls l' (List.mem_of_mem_take hm)) (List.forall_mem_nil _), by rw [hlen]; omega, hls l (List.mem_of_getElem? hl), fun v' H2 s2 r2 => ?_⟩
      walk_at "go"
      have f2 := f.mono RRow.mono s2
      obtain ⟨ys2, e2', hl2, fp⟩ := f2.push (d := rowD nd (rowsD nd (ls.take i) []) l) (RRow.tup _ _ _ _ (NTup.lst (s2 _ _ e1)) r2)
      refine w_append e2' (line_of (by rw [hl2, hlen]; omega)) ?_
      walk_at "go"
      refine ⟨_, rfl, ?_⟩
      rw [List.take_add_one, hl]
      show Filled (RRow K) H _ ol (rowsD nd (ls.take i ++ [l]) [])
      rw [rowsD_snoc]
      exact fp
    · rintro σ H' ⟨y3, rfl, f⟩
      rw [List.length_map, natI_len, List.take_length] at f
      walk_at "go"
      exact k _ _ f
def sp_L_rows (K : PySem.W.Frag) : Sp := fun vs H Q _ => ∃ (v v2 : V) (nd : NetD) (ls : List Nat) (w : Nat), vs = [v, v2] ∧ RNet K H v nd ∧ NetOk nd w ∧ RVecX K H v2 (natI ls) ∧ (∀ l ∈ ls, l < nd.emb.length) ∧ ls.length ≤ 1000 ∧
  ∀ v' H', Same H H' → RSeq true K (RRow K) H' v' (rowsD nd ls []) → Q v' H'
theorem ok_L_rows (T : Txt K mg) : FnOk P w K mg base CX0 4 T.a_L_rows T.d_L_rows ["_law_net_here", "_law_letters"] (sp_L_rows K) :=
  ⟨fun vs H Q E h => by
    obtain ⟨v, v2, nd, ls, wd, rfl, _⟩ := h
    rfl, fun A outer s H args us vs Q E hr e0 hb r h => (ok_L_rowsF T).run A outer s H args us vs Q E hr e0 hb r (by
    obtain ⟨v, v2, nd, ls, wd, e, hN, ok, hS, hls, hz, k⟩ := h
    exact ⟨v, v2, nd, ls, wd, e, hN, ok, hS, hls, hz, fun D H' F => k _ _ F.same (F.seq RRow.mono)⟩)⟩


/-! ### _law_numbers: so many numbers from 0 to 999 -/
def sp_L_numbers (K : PySem.W.Frag) : Sp := fun vs H Q _ => ∃ (c t n : Int), vs = [.int c, .int t, .int n] ∧ 0 ≤ n ∧ n ≤ 1000 ∧
  ∀ (ns : List Int) (p : Addr) (H' : Hp), (ns.length : Int) = n → (∀ x ∈ ns, (0 : Int) ≤ x ∧ x < 1000) → Same H H' → H p = none → H' p = some (.lst (ns.map V.int)) → Q (.ref p) H'
theorem ok_L_numbers (T : Txt K mg) : FnOk P w K mg base CX0 1 T.a_L_numbers T.d_L_numbers ["_law_cell", "_law_at", "_law_many"] (sp_L_numbers K) := by
  refine T.F_L_numbers.ok sc_L_numbers (fun vs H Q E h => ?_) (fun cdv A outer s H vs Q E hr h => ?_)
  · obtain ⟨_, _, _, rfl, _⟩ := h
    rfl
  · obtain ⟨c, t, n, rfl, hn0, hn1, k⟩ := h
    refine ⟨_, (pss_cons (ps_set (i := 3) sc_L_numbers.nd rfl (Or.inl rfl) (pe_cmpR op_ge (pe_callB cr_abs (by rfl) T.z_abs (by decide +kernel) (pa_cons (pe_callTy cr_int1 (by rfl) T.z_int (by decide +kernel) (pa_cons (pv 0) pa_nil)) pa_nil)) (pe_op op_pow pe_int pe_int) (nomark _)))
      (pss_cons (ps_set (i := 4) sc_L_numbers.nd rfl (Or.inl rfl) (pe_op (k_addG (K := K) rfl) (pe_op op_mul pe_int (pe_callB cr_abs (by rfl) T.z_abs (by decide +kernel) (pa_cons (pe_callTy cr_int1 (by rfl) T.z_int (by decide +kernel) (pa_cons (pv 0) pa_nil)) pa_nil))) (pe_callTy cr_int1 (by rfl) T.z_int (by decide +kernel) (pa_cons (pe_cmpR op_lt (pv 0) pe_int (nomark _)) pa_nil))))
      (pss_cons (ps_set (i := 5) sc_L_numbers.nd rfl (Or.inl rfl) (pe_lst pa_nil))
      (pss_cons (ps_for PassesOwn.never rfl (pi_range1 rfl T.z_range (pa_cons (pv 2) pa_nil)) (pg_name (i := 6) sc_L_numbers.nd rfl (Or.inl rfl))
      (pss_one (ps_if (k_tru (K := K) rfl (pv 3) (by intro _; rfl)) (pss_cons (ps_expr (k_bm (K := K) rfl PySem.F.plainAttrs_list PySem.F.slot_list_append PySem.F.type_list_append mt_append (pv 5) (pa_cons (pe_op op_mod (pe_callTy cr_int1 (by rfl) T.z_int (by decide +kernel) (pa_cons (pv 4) pa_nil)) pe_int) pa_nil)))
      (pss_one (ps_set (i := 4) sc_L_numbers.nd rfl (Or.inl rfl) (pe_op op_fdiv (pv 4) pe_int)))) (pss_cons (ps_set (i := 7) sc_L_numbers.nd rfl (Or.inl rfl) (pe_op op_mod (pe_callTy cr_int1 (by rfl) T.z_int (by decide +kernel) (pa_cons (pe_op (k_addG (K := K) rfl) (pe_op (k_addG (K := K) rfl) (pe_op (k_addG (K := K) rfl) (pe_op op_mul (pv 4) pe_int) (pe_op op_mul (pv 1) pe_int)) (pe_op op_mul (pv 6) pe_int)) pe_int) pa_nil)) pe_int))
      (pss_cons (ps_set (i := 7) sc_L_numbers.nd rfl (Or.inl rfl) (pe_op op_mod (pe_callTy cr_int1 (by rfl) T.z_int (by decide +kernel) (pa_cons (pe_op (k_addG (K := K) rfl) (pe_op (k_addG (K := K) rfl) (pe_op op_mul (pv 7) (pv 7)) (pe_op op_mul (pv 6) pe_int)) pe_int) pa_nil)) pe_int))
      (pss_cons (ps_set (i := 7) sc_L_numbers.nd rfl (Or.inl rfl) (pe_op op_mod (pe_callTy cr_int1 (by rfl) T.z_int (by decide +kernel) (pa_cons (pe_op (k_addG (K := K) rfl) (pe_op (k_addG (K := K) rfl) (pe_op op_mul (pv 7) (pv 7)) (pe_op op_mul (pv 1) pe_int)) pe_int) pa_nil)) pe_int))
      (pss_one (ps_expr (k_bm (K := K) rfl PySem.F.plainAttrs_list PySem.F.slot_list_append PySem.F.type_list_append mt_append (pv 5) (pa_cons (pe_op op_mod (pe_callTy cr_int1 (by rfl) T.z_int (by decide +kernel) (pa_cons (pe_op op_fdiv (pv 7) pe_int) pa_nil)) pe_int) pa_nil))))))))))
      (pss_one (ps_ret (pv 5))))))), ?_⟩
    refine go_start (σ' := [some (.int c), some (.int t), some (.int n), none, none, none, none, none]) rfl ?_
    try dsimp only [cxOf, Cx.nox, Cx.wish]
    walk_at "go"
    refine ⟨Nat.zero_le _, fun l hl => ?_⟩
    walk_at "go"
    refine l_range (fun i σ H' => ∃ (g : Bool) (r : Int) (ns : List Int) (y6 y7 : Option V), σ = [some (.int c), some (.int t), some (.int n), some (.bl g), some (.int r), some (.ref l), y6, y7] ∧ ns.length = i ∧ (∀ x ∈ ns, (0 : Int) ≤ x ∧ x < 1000) ∧ Same H H' ∧ H' l = some (.lst (ns.map V.int)))
      (by omega) (by omega) ⟨_, _, [], none, none, rfl, rfl, List.forall_mem_nil _, Same.new hl, upd_same⟩ ?_ ?_
    · rintro i σ H' hi ⟨g, r, ns, y6, y7, rfl, hlen, hb, sm, hL⟩
      have hz : (ns.map V.int).length < sizeLine := by
        rw [List.length_map]
        exact small1000 (by omega)
      walk_at "go"
      refine w_iteB (fun hg => ?_) (fun hg => ?_)
      · walk_at "go"
        refine w_append hL hz ?_
        walk_at "go"
        refine ⟨g, _, ns ++ [_], _, _, rfl, by rw [List.length_append, hlen]; rfl, fun x hx => ?_, Same.mut sm hl, by rw [upd_same, List.map_append]; rfl⟩
        rcases List.mem_append.mp hx with h | h
        · exact hb x h
        · rw [List.mem_singleton.mp h]; omega
      · walk_at "go"
        refine w_append hL hz ?_
        walk_at "go"
        refine ⟨g, _, ns ++ [_], _, _, rfl, by rw [List.length_append, hlen]; rfl, fun x hx => ?_, Same.mut sm hl, by rw [upd_same, List.map_append]; rfl⟩
        rcases List.mem_append.mp hx with h | h
        · exact hb x h
        · rw [List.mem_singleton.mp h]; omega
    · rintro σ H' ⟨g, r, ns, y6, y7, rfl, hlen, hb, sm, hL⟩
      walk_at "go"
      exact k ns l H' (by omega) hb sm hl hL

/-! ### _law_same: True of the same data -/
def sp_L_same (K : PySem.W.Frag) (n : Nat) : Sp := fun vs H Q _ => ∃ x y : V, vs = [x, y] ∧ Sm K H n x y ∧ Q (.bl true) H
theorem same_step (T : Txt K mg) {n k : Nat} (G : FnOk P w K mg base CX0 k T.a_L_same T.d_L_same ["_law_actual", "_law_expected"] (fun vs H Q E => ∃ m, n = m + 1 ∧ sp_L_same K m vs H Q E)) :
    FnOk P w K mg base CX0 (k + 1) T.a_L_same T.d_L_same ["_law_actual", "_law_expected"] (sp_L_same K n) := by
  refine T.F_L_same.ok sc_L_same (fun vs H Q E h => ?_) (fun cdv A outer s H vs Q E hr h => ?_)
  · obtain ⟨_, _, rfl, _⟩ := h
    rfl
  · obtain ⟨x, y, rfl, hS, q⟩ := h
    refine ⟨_, (pss_cons (ps_if (pt_cmpR op_isNN (pv 1) pe_non (nomark _)) (pss_one (ps_ret (pe_cmpR op_isNN (pv 0) pe_non (nomark _)))) pss_nil)
      (pss_cons (ps_if (k_tru (K := K) rfl (pe_callB (k_isi (K := K) rfl) (by rfl) T.z_isinstance (by decide +kernel) (pa_cons (pv 1) (pa_cons (pe_bltn (v := .ty "str") (by rfl) T.z_str (by decide +kernel) rfl) pa_nil))) (by intro _; rfl)) (pss_one (ps_ret (pe_and (pe_callB (k_isi (K := K) rfl) (by rfl) T.z_isinstance (by decide +kernel) (pa_cons (pv 0) (pa_cons (pe_bltn (v := .ty "str") (by rfl) T.z_str (by decide +kernel) rfl) pa_nil))) (pe_one (pe_cmpR (k_eqG (K := K) rfl hr.units) (pv 0) (pv 1) (nomark _)))))) pss_nil)
      (pss_cons (ps_if (k_tru (K := K) rfl (pe_callB (k_isi (K := K) rfl) (by rfl) T.z_isinstance (by decide +kernel) (pa_cons (pv 1) (pa_cons (pe_bltn (v := .ty "bool") (by rfl) T.z_bool (by decide +kernel) rfl) pa_nil))) (by intro _; rfl)) (pss_one (ps_ret (pe_and (pe_callB (k_isi (K := K) rfl) (by rfl) T.z_isinstance (by decide +kernel) (pa_cons (pv 0) (pa_cons (pe_bltn (v := .ty "bool") (by rfl) T.z_bool (by decide +kernel) rfl) pa_nil))) (pe_one (pe_cmpR (k_eqG (K := K) rfl hr.units) (pv 0) (pv 1) (nomark _)))))) pss_nil)
      (pss_cons (ps_if (k_tru (K := K) rfl (pe_callB (k_isi (K := K) rfl) (by rfl) T.z_isinstance (by decide +kernel) (pa_cons (pv 1) (pa_cons (pe_bltn (v := .ty "int") (by rfl) T.z_int (by decide +kernel) rfl) pa_nil))) (by intro _; rfl)) (pss_one (ps_ret (pe_and (pe_callB (k_isi (K := K) rfl) (by rfl) T.z_isinstance (by decide +kernel) (pa_cons (pv 0) (pa_cons (pe_bltn (v := .ty "int") (by rfl) T.z_int (by decide +kernel) rfl) pa_nil))) (pe_and (pe_not (pe_callB (k_isi (K := K) rfl) (by rfl) T.z_isinstance (by decide +kernel) (pa_cons (pv 0) (pa_cons (pe_bltn (v := .ty "bool") (by rfl) T.z_bool (by decide +kernel) rfl) pa_nil)))) (pe_one (pe_cmpR (k_eqG (K := K) rfl hr.units) (pv 0) (pv 1) (nomark _))))))) pss_nil)
      (pss_cons (ps_if (PW.pt (pw_or (pt_not (k_tru (K := K) rfl (pe_callB (k_isi (K := K) rfl) (by rfl) T.z_isinstance (by decide +kernel) (pa_cons (pv 0) (pa_cons (pe_bltn (v := .ty "tuple") (by rfl) T.z_tuple (by decide +kernel) rfl) pa_nil))) (by intro _; rfl))) (pw_or1 (pt_cmpR (k_neG (K := K) rfl hr.units) (pe_callB (k_lenS (K := K) rfl) (by rfl) T.z_len (by decide +kernel) (pa_cons (pv 0) pa_nil)) (pe_callB (k_lenS (K := K) rfl) (by rfl) T.z_len (by decide +kernel) (pa_cons (pv 1) pa_nil)) (nomark _))))) (pss_one (ps_ret pe_bl)) pss_nil)
      (pss_cons (ps_for PassesOwn.never rfl (pi_range1 rfl T.z_range (pa_cons (pe_callB (k_lenS (K := K) rfl) (by rfl) T.z_len (by decide +kernel) (pa_cons (pv 1) pa_nil)) pa_nil)) (pg_name (i := 2) sc_L_same.nd rfl (Or.inl rfl))
      (pss_one (ps_if (pt_not (k_tru (K := K) rfl (pe_call G hr (by rfl) T.g_L_same T.F_L_same.kp T.b_L_same .nil pass0 (pa_cons (pe_ix (k_ix (K := K) rfl) (pv 0) (pv 2) (fun _ _ => rfl)) (pa_cons (pe_ix (k_ix (K := K) rfl) (pv 1) (pv 2) (fun _ _ => rfl)) pa_nil))) (by intro _; rfl))) (pss_one (ps_ret pe_bl)) pss_nil)))
      (pss_one (ps_ret pe_bl)))))))), ?_⟩
    refine go_start (σ' := [some x, some y, none]) rfl ?_
    try dsimp only [cxOf, Cx.nox, Cx.wish]
    have hflat : (x = y ∧ (x = .non ∨ (∃ b, x = .bl b) ∨ (∃ i, x = .int i) ∨ ∃ s, x = .str s)) ∨
        ∃ (m : Nat) (a a' : Addr) (k : Bool) (xs ys : List V), n = m + 1 ∧ x = .ref a ∧ y = .ref a' ∧ SqT K H a xs ∧ Sq k K H a' ys ∧ xs.length = ys.length ∧ ys.length ≤ 100000 ∧ ∀ (i : Nat) x' y', xs[i]? = some x' → ys[i]? = some y' → Sm K H m x' y' := by
      cases n with
      | zero => exact .inl hS
      | succ m =>
        rcases hS with h | ⟨a, a', k, xs, ys, h1, h2, h3, h4, h5, hz, h6⟩
        · exact .inl h
        · exact .inr ⟨m, a, a', k, xs, ys, rfl, h1, h2, h3, h4, h5, hz, h6⟩
    rcases hflat with ⟨rfl, rfl | ⟨b, rfl⟩ | ⟨i, rfl⟩ | ⟨z, rfl⟩⟩ | ⟨m, a, a', kd, xs, ys, rfl, rfl, rfl, hx, hy, hl, hz, hxy⟩
    · walk_at "go"
      exact q
    · walk_at "go"
      refine w_isi (tn := "bool") (b := false) (.base (.bl _)) (by decide +kernel) ?_
      walk_at "go"
      refine w_isi (tn := "bool") (b := true) (.base (.bl _)) (by decide +kernel) ?_
      walk_at "go"
      refine w_isi (tn := "bool") (b := true) (.base (.bl _)) (by decide +kernel) ?_
      walk_at "go"
      refine w_eqS rfl ?_
      rw [decide_eq_true rfl]
      exact q
    · walk_at "go"
      refine w_isi (tn := "int") (b := false) (.base (.int _)) (by decide +kernel) ?_
      walk_at "go"
      refine w_isi (tn := "int") (b := false) (.base (.int _)) (by decide +kernel) ?_
      walk_at "go"
      refine w_isi (tn := "int") (b := true) (.base (.int _)) (by decide +kernel) ?_
      walk_at "go"
      refine w_isi (tn := "int") (b := true) (.base (.int _)) (by decide +kernel) ?_
      walk_at "go"
      refine w_isi (tn := "int") (b := false) (.base (.int _)) (by decide +kernel) ?_
      walk_at "go"
      rw [decide_eq_true rfl]
      exact q
    · walk_at "go"
      refine w_isi (tn := "str") (b := true) (.base (.str _)) (by decide +kernel) ?_
      walk_at "go"
      refine w_isi (tn := "str") (b := true) (.base (.str _)) (by decide +kernel) ?_
      walk_at "go"
      refine w_eqS rfl ?_
      rw [decide_eq_true rfl]
      exact q
    · walk_at "go"
      have isi : ∀ {cn : String} {Q' : VK}, kitB (if kd then "list" else "tuple") cn = some false → Q' (.bl false) H → rIsi K [.ref a', .ty cn] H Q' := fun hk q' => by
        cases kd with
        | true => exact w_isi (tyx_lst hy) hk q'
        | false => exact w_isi (tyx_tup hy) hk q'
      refine isi (by cases kd <;> decide +kernel) ?_
      walk_at "go"
      refine isi (by cases kd <;> decide +kernel) ?_
      walk_at "go"
      refine isi (by cases kd <;> decide +kernel) ?_
      walk_at "go"
      refine w_isi (tn := "tuple") (b := true) (tyx_tup hx) (by decide +kernel) ?_
      walk_at "go"
      have hx' : Sq false K H a xs := hx
      walk_at "go"
      refine w_iteN (fun hc => absurd (show ((xs.length : Nat) : Int) = ys.length by rw [hl]) hc) (fun _ => ?_)
      walk_at "go"
      refine l_range (fun i σ H' => ∃ y2, σ = [some (.ref a), some (.ref a'), y2] ∧ H' = H) (by omega) (by omega) ⟨none, rfl, rfl⟩ ?_ ?_
      · rintro i σ H' hi ⟨y2, rfl, rfl⟩
        have hi2 : i < ys.length := by omega
        have ex : xs[i]? = some (xs[i]'(by omega)) := List.getElem?_eq_getElem (by omega)
        have ey : ys[i]? = some (ys[i]'hi2) := List.getElem?_eq_getElem hi2
        walk_at "go"
        refine w_ix hx' (atI_nat ex) ?_
        walk_at "go"
        refine w_ix hy (atI_nat ey) ?_
        walk_at "go"
        refine ⟨m, rfl, _, _, rfl, hxy i _ _ ex ey, ?_⟩
        walk_at "go"
        exact ⟨_, rfl, rfl⟩
      · rintro σ H' ⟨y2, rfl, rfl⟩
        walk_at "go"
        exact q
/-- of data no deeper than n, at a level of its own -/
theorem ok_L_same_at (T : Txt K mg) : ∀ n : Nat, FnOk P w K mg base CX0 (n + 1) T.a_L_same T.d_L_same ["_law_actual", "_law_expected"] (sp_L_same K n)
  | 0 => same_step T (k := 0) ⟨fun vs H Q E h => by obtain ⟨m, e, _⟩ := h; exact absurd e (by omega), fun A outer s H args us vs Q E hr he hb hv h => by obtain ⟨m, e, _⟩ := h; exact absurd e (by omega)⟩
  | n + 1 => same_step T ((ok_L_same_at T n).imp fun vs H Q E h => by
      obtain ⟨m, e, h⟩ := h
      have e2 : m = n := by omega
      subst e2
      exact h)

/-! ### the same rows; nets told; rows of a part -/
theorem pair_sm {K : PySem.W.Frag} {H : Hp} {n : Nat} {x y : V} {p : PairD} (h1 : p.1.length ≤ 1000) (h2 : p.2.length ≤ 1000) (r1 : RPr K H x p) (r2 : RPr K H y p) : Sm K H (n + 2) x y :=
  RPair.sm (fun _ _ a b => RVec.sm (by omega) a b) (fun _ _ a b => RVec.sm (by omega) a b) r1 r2
theorem row_sm {K : PySem.W.Frag} {H : Hp} {nd : NetD} {w : Nat} (ok : NetOk nd w) {x y : V} {r : RowD} (hr : RowOk nd w r) (r1 : RRow K H x r) (r2 : RRow K H y r) : Sm K H 4 x y := by
  obtain ⟨h1, h2, h3⟩ := hr
  have := ok.l3
  have := ok.o12
  have := ok.w4
  exact RPair.sm (fun _ _ a b => RSeq.sm (by omega) (fun _ _ d hd a b => pair_sm (by have := (h2 d hd).1.1; omega) (by have := (h2 d hd).2.1; omega) a b) a b) (fun _ _ a b => RVec.sm (by omega) a b) r1 r2
theorem rows_sm {K : PySem.W.Frag} {H : Hp} {b : Bool} {nd : NetD} {w : Nat} (ok : NetOk nd w) {x y : V} {rows : List RowD} (hz : rows.length ≤ 1000) (hr : ∀ r ∈ rows, RowOk nd w r) (r1 : RSeq false K (RRow K) H x rows) (r2 : RSeq b K (RRow K) H y rows) : Sm K H 5 x y :=
  RSeq.sm (by omega) (fun _ _ d hd a b => row_sm ok (hr d hd) a b) r1 r2
theorem Sm.up {K : PySem.W.Frag} {H : Hp} : ∀ {n : Nat} {x y : V}, Sm K H n x y → Sm K H (n + 1) x y
  | 0, _, _, h => .inl h
  | n + 1, _, _, h => by
    rcases h with h | ⟨a, a', k, xs, ys, h1, h2, h3, h4, h5, hz, h6⟩
    · exact .inl h
    · exact .inr ⟨a, a', k, xs, ys, h1, h2, h3, h4, h5, hz, fun i x' y' e1 e2 => Sm.up (h6 i x' y' e1 e2)⟩
theorem make_same {H : Hp} {x dx : Addr} {o o' : HO} (hx : H x = none) (hdx : H dx = none) : Same H (hide x (upd (upd H dx o) x o')) := fun b u e => by
  rw [hide_upd, hide_ne (ne_of_none e hx), upd_ne (ne_of_none e hdx)]
  exact e
def RTold (K : PySem.W.Frag) (C : Addr) : Rep NetD := fun H v nd => ∃ q, v = .ref q ∧ IsNet K C H q nd .non
theorem RTold.mono {K : PySem.W.Frag} {C : Addr} : RMono (RTold K C) := fun _ _ _ _ s ⟨q, e, h⟩ => ⟨q, e, h.mono s⟩
theorem RTold.lst {K : PySem.W.Frag} {C : Addr} : RLst (RTold K C) := fun H D v nd ys hD ⟨q, e, dx, v1, v2, v3, v4, h0, h1, h2, h3, h4⟩ => by
  have t := NTup.lst hD
  refine ⟨q, e, dx, v1, v2, v3, v4, ?_, RMat.tup _ _ _ _ t h1, RVec.tup _ _ _ _ t h2, RSeq.tup (RSeq.tup RMat.tup) _ _ _ _ t h3, RMat.tup _ _ _ _ t h4⟩
  rw [hide_ne (fun e => by rw [e, hD] at h0; cases h0)]
  exact h0
theorem RLay.x {K : PySem.W.Frag} {H : Hp} {v : V} {L : List (List Mat)} (h : RSeq false K (RSeq false K (RMat K)) H v L) : RLayX K H v L := by
  obtain ⟨a, vs, e, h1, h2, h3⟩ := h
  refine ⟨false, a, vs, e, h1, h2, fun i y x e1 e2 => ?_⟩
  obtain ⟨a', vs', e', h1', h2', h3'⟩ := h3 i y x e1 e2
  exact ⟨false, a', vs', e', h1', h2', fun i y x e1 e2 => (h3' i y x e1 e2).x⟩
/-- the hand-over of a net's data to Net(..) -/
theorem told_of {K : PySem.W.Frag} {C : Addr} {H1 : Hp} {nd : NetD} {w : Nat} (ok : NetOk nd w) (hpr : nd.p ∈ primes) {v1 v2 v3 v4 : V} {x dx : Addr} (hx : H1 x = none) (hdx : H1 dx = none) {Q : VK} {E : XK}
    (r1 : RMat K H1 v1 nd.emb) (r2 : RVec false K H1 v2 nd.sh) (r3 : RSeq false K (RSeq false K (RMat K)) H1 v3 nd.lay) (r4 : RMat K H1 v4 nd.out) (q : ∀ H', Same H1 H' → IsNet K C H' x nd .non → Q .non H') :
    sp_Net___init__ K C [.ref x, .int nd.p, v1, v2, v3, v4, .non] (upd (upd H1 dx (.own x)) x (.ins C dx [])) Q E := by
  have s := make_same (o := .own x) (o' := .ins C dx []) hx hdx
  have := ok.e12
  have := ok.o12
  have := ok.l3
  refine ⟨x, dx, nd, v1, v2, v3, v4, .non, rfl, upd_same, hpr, RMatX.mono _ _ _ _ s r1.x, RVecX.mono _ _ _ _ s ⟨false, r2⟩, RLayX.mono _ _ _ _ s (RLay.x r3), RMatX.mono _ _ _ _ s r4.x, by omega, by omega, by omega, fun L hL => ?_, fun H' s' r => q H' ((s.trans s').trans (hide_same _ _)) r⟩
  obtain ⟨h5, hm⟩ := ok.lay L hL
  have := ok.w4
  exact ⟨by omega, fun M hM => by rw [(hm M hM).1]; omega⟩
theorem natI_toNat {ms : List Int} (h : ∀ x ∈ ms, (0 : Int) ≤ x) : natI (ms.map Int.toNat) = ms := by
  induction ms with
  | nil => rfl
  | cons a r ih =>
    show ((a.toNat : Nat) : Int) :: natI (r.map Int.toNat) = a :: r
    rw [ih fun x hx => h x (List.mem_cons_of_mem _ hx), Int.toNat_of_nonneg (h a (List.mem_cons_self ..))]
theorem rowsD_pre (nd : NetD) : ∀ (ls : List Nat) (acc : List RowD), (rowsD nd ls acc).take acc.length = acc
  | [], acc => List.take_length ..
  | a :: r, acc => by
    have h := congrArg (List.take acc.length) (rowsD_pre nd r (acc ++ [rowD nd acc a]))
    rw [List.take_take, List.length_append, Nat.min_eq_left (by omega), List.take_left' rfl] at h
    exact h
theorem rowsD_takeG (nd : NetD) : ∀ (ls : List Nat) (n : Nat) (acc : List RowD), rowsD nd (ls.take n) acc = (rowsD nd ls acc).take (acc.length + n)
  | ls, 0, acc => by rw [List.take_zero, Nat.add_zero, rowsD_pre]; rfl
  | [], n + 1, acc => by
    show acc = acc.take (acc.length + (n + 1))
    rw [List.take_of_length_le (by omega)]
  | a :: r, n + 1, acc => by
    show rowsD nd (r.take n) (acc ++ [rowD nd acc a]) = (rowsD nd r (acc ++ [rowD nd acc a])).take (acc.length + (n + 1))
    rw [rowsD_takeG nd r n, List.length_append, List.length_singleton, show acc.length + 1 + n = acc.length + (n + 1) by omega]
theorem rowsD_take (nd : NetD) (ls : List Nat) (n : Nat) : rowsD nd (ls.take n) [] = (rowsD nd ls []).take n := by
  rw [rowsD_takeG nd ls n [], List.length_nil, Nat.zero_add]
theorem lastW_at {rows : List RowD} {n : Nat} {r : RowD} (h : rows[n]? = some r) (hl : rows.length = n + 1) : lastW rows = r.2 := by
  unfold lastW
  rw [List.getLastD_eq_getLast?, List.getLast?_eq_getElem?, hl, Nat.add_sub_cancel, h]
  rfl
theorem lastW_take {nd : NetD} {ls : List Nat} {j : Nat} {r : RowD} (h : (rowsD nd ls [])[j]? = some r) : lastW (rowsD nd (ls.take (j + 1)) []) = r.2 := by
  have hj := (List.getElem?_eq_some_iff.mp h).1
  rw [rowsD_take]
  refine lastW_at (n := j) ?_ (by rw [List.length_take]; omega)
  rw [List.getElem?_take, if_pos (by omega)]
  exact h
theorem natI_take (ls : List Nat) (n : Nat) : (natI (ls.take n)).map V.int = ((natI ls).map V.int).take n := by
  unfold natI
  rw [List.map_take, List.map_take]
theorem rowW_in {nd : NetD} {w : Nat} (ok : NetOk nd w) {rows : List RowD} {l : Nat} : ∀ x ∈ (rowD nd rows l).2, 1 ≤ x ∧ x ≤ nd.p := fun x hx => by
  obtain ⟨v, _, e⟩ := List.mem_map.mp hx
  have := ok.p2
  have h1 : 0 ≤ dot v (lastSt nd rows l).2 % nd.p := Int.emod_nonneg _ (by omega)
  have h2 : dot v (lastSt nd rows l).2 % nd.p < nd.p := Int.emod_lt_of_pos _ (by omega)
  subst e
  omega
theorem rowsW_in {nd : NetD} {w : Nat} (ok : NetOk nd w) : ∀ (ls : List Nat) (acc : List RowD), (∀ r ∈ acc, ∀ x ∈ r.2, 1 ≤ x ∧ x ≤ nd.p) → ∀ r ∈ rowsD nd ls acc, ∀ x ∈ r.2, 1 ≤ x ∧ x ≤ nd.p
  | [], acc, h => h
  | a :: r, acc, h => rowsW_in ok r _ fun x hx => by
    rcases List.mem_append.mp hx with h1 | h1
    · exact h x h1
    · rw [List.mem_singleton.mp h1]; exact rowW_in ok
theorem cutV_ints {ns : List Int} {a b : Int} (h0 : 0 ≤ a) (h : a ≤ b) (hb : b ≤ ns.length) : cutV (ns.map V.int) (some a) (some b) = ((ns.drop a.toNat).take (b.toNat - a.toNat)).map V.int := by
  rw [cutV_int h0 h (by rw [List.length_map]; exact hb), List.map_take, List.map_drop]

/-! ### values told by a whole number or none; raising; nothing let out -/
def RAny (K : PySem.W.Frag) (H : Hp) (v : V) : Option Int → Prop
  | some i => v = .int i
  | none => ∃ tn, TyX K H v (.type tn) ∧ (tn = "bool" ∨ tn = "NoneType" ∨ tn = "str" ∨ tn = "tuple" ∨ tn = "list")
def btw (a b : Int) : Option Int → Bool
  | some i => decide (a ≤ i ∧ i ≤ b)
  | none => false
theorem RAny.btw {K : PySem.W.Frag} {H : Hp} {v : V} {o : Option Int} (h : RAny K H v o) (a b : Int) : (∃ i, v = .int i ∧ btw a b o = decide (a ≤ i ∧ i ≤ b)) ∨ (My.btw a b o = false ∧ ∃ tn, TyX K H v (.type tn) ∧ (tn = "bool" ∨ tn = "NoneType" ∨ tn = "str" ∨ tn = "tuple" ∨ tn = "list")) := by
  cases o with
  | some i => exact .inl ⟨i, h, rfl⟩
  | none => exact .inr ⟨rfl, h⟩
theorem w_raiseV {K : PySem.W.Frag} {C : Addr} {f : Str} {i : Nat} {v : V} {QX : XK} {σ : L2.St} {H : Hp} (o : OexC K C) (n : PySem.W.findIn K (.ref C) f = some none) (h : σ[i]? = some (some v)) (q : RaiseQ QX H C f v) : tMkO C (spErr K f) [] (tCons (tVar i) tNil) σ H QX :=
  w_mkErrV o n h fun d hd => q d _ hd (Same.new hd) upd_same
theorem w_raiseC {K : PySem.W.Frag} {C : Addr} {f : Str} {v : V} {QX : XK} {σ : L2.St} {H : Hp} (o : OexC K C) (n : PySem.W.findIn K (.ref C) f = some none) (q : RaiseQ QX H C f v) : tMkO C (spErr K f) [] (tCons (tC v) tNil) σ H QX :=
  w_mkErr o n ⟨v, rfl, fun d hd => q d _ hd (Same.new hd) upd_same⟩ fun hq z => hq _ _ z
theorem toCX0 {P : Program} {w : World} {K : PySem.W.Frag} {mg : Str → Option Value} {base : Heap} {k : Nat} {f : Addr} {fd : FuncData} {ps : List Str} {sp : Sp} (F : FnOk P w K mg base (L2N.CX P w) k f fd ps sp) : FnOk P w K mg base CX0 k f fd ps (fun vs H Q _ => sp vs H Q (fun _ _ _ => False)) :=
  ⟨fun vs H Q E h => F.len vs H Q _ h, fun A outer s H args us vs Q E hr e0 hb r h => codeAny_mono (F.run A outer s H args us vs Q (fun _ _ _ => False) hr e0 hb r h) fun r' s' z => by
    match r', z with
    | .error _, z => exact z.elim fun _ ⟨_, _, _, _, _, _, _, _, _, _, _, q⟩ => q.elim
    | .ok (.ret u), z => exact z
    | .ok .next, z => exact z
    | .ok .brk, z => exact z
    | .ok .cont, z => exact z⟩

/-! ### values that are no numbers, or others -/
structure Shows (d : PyData) : Prop where
  ok : d.showable = true
  nod : d.hasDict = false
  deep : d.depth ≤ 30
  size : d.shown.length ≤ 10000 ∨ ∃ i, d = .int i
def ROdd (K : PySem.W.Frag) : Rep PyData := fun H v d => Shows d ∧ ((v = .non ∧ d = .none) ∨ (∃ b, v = .bl b ∧ d = .bool b) ∨ (∃ i, v = .int i ∧ d = .int i) ∨ (∃ s, v = .str s ∧ d = .str s) ∨
  ∃ (a : Addr) (b : Bool) (ns : List Int), v = .ref a ∧ Sq b K H a (ns.map V.int) ∧ d = if b then .list (ns.map PyData.int) else .tuple (ns.map PyData.int))
theorem ROdd.mono {K : PySem.W.Frag} : RMono (ROdd K) := fun _ _ _ _ s ⟨h, k⟩ => ⟨h, by
  rcases k with k | k | k | k | ⟨a, b, ns, e, hq, ed⟩
  · exact .inl k
  · exact .inr (.inl k)
  · exact .inr (.inr (.inl k))
  · exact .inr (.inr (.inr (.inl k)))
  · exact .inr (.inr (.inr (.inr ⟨a, b, ns, e, s.sq hq, ed⟩)))⟩
theorem ROdd.dp {K : PySem.W.Frag} {H : Hp} {v : V} {d : PyData} (h : ROdd K H v d) : Dp K H v d := by
  obtain ⟨_, ⟨rfl, rfl⟩ | ⟨b, rfl, rfl⟩ | ⟨i, rfl, rfl⟩ | ⟨s, rfl, rfl⟩ | ⟨a, b, ns, rfl, hq, rfl⟩⟩ := h
  · exact .non
  · exact .bl _
  · exact .int _
  · exact .str _
  · exact dp_ints hq
def inB (a b : Int) : PyData → Bool
  | .int i => decide (a ≤ i ∧ i ≤ b)
  | _ => false
theorem ROdd.between {K : PySem.W.Frag} {H : Hp} {v : V} {d : PyData} (h : ROdd K H v d) (a b : Int) : (∃ i, v = .int i ∧ inB a b d = decide (a ≤ i ∧ i ≤ b)) ∨ (inB a b d = false ∧ ∃ tn, TyX K H v (.type tn) ∧ (tn = "bool" ∨ tn = "NoneType" ∨ tn = "str" ∨ tn = "tuple" ∨ tn = "list")) := by
  obtain ⟨_, ⟨rfl, rfl⟩ | ⟨b, rfl, rfl⟩ | ⟨i, rfl, rfl⟩ | ⟨s, rfl, rfl⟩ | ⟨a, b, ns, rfl, hq, rfl⟩⟩ := h
  · exact .inr ⟨rfl, _, .base .non, .inr (.inl rfl)⟩
  · exact .inr ⟨rfl, _, .base (.bl _), .inl rfl⟩
  · exact .inl ⟨i, rfl, rfl⟩
  · exact .inr ⟨rfl, _, .base (.str _), .inr (.inr (.inl rfl))⟩
  · cases b with
    | true => exact .inr ⟨rfl, _, tyx_lst hq, .inr (.inr (.inr (.inr rfl)))⟩
    | false => exact .inr ⟨rfl, _, tyx_tup hq, .inr (.inr (.inr (.inl rfl)))⟩
theorem ROdd.int {K : PySem.W.Frag} {H : Hp} {i : Int} (h : i.natAbs.log2 < 1920) : ROdd K H (.int i) (.int i) := ⟨⟨by show decide (i.natAbs.log2 < 1920) = true; exact decide_eq_true h, rfl, by show (0 : Nat) ≤ 30; omega, .inr ⟨i, rfl⟩⟩, .inr (.inr (.inl ⟨i, rfl, rfl⟩))⟩
theorem log_small {i : Int} (h : i.natAbs < 2 ^ 200) : i.natAbs.log2 < 1920 := by
  by_cases h0 : i.natAbs = 0
  · rw [h0]; decide
  · exact Nat.lt_of_lt_of_le ((Nat.log2_lt h0).mpr h) (by omega)
theorem in_not {a b i : Int} (h : ¬ (a ≤ i ∧ i ≤ b)) : inB a b (.int i) = false := decide_eq_false h

/-! ### greatest -/
def bestUpTo (ns : List Int) : Nat → Nat
  | 0 => 0
  | i + 1 => if nth ns (bestUpTo ns i) < nth ns i then i else bestUpTo ns i
theorem bestUpTo_lt (ns : List Int) : ∀ i, 0 < i → bestUpTo ns i < i
  | 0, h => absurd h (by decide)
  | i + 1, _ => by
    unfold bestUpTo
    split
    · omega
    · rcases Nat.eq_zero_or_pos i with h | h
      · subst h; exact Nat.zero_lt_one
      · have := bestUpTo_lt ns i h; omega
theorem bestUpTo_len {ns : List Int} (h : 0 < ns.length) {i : Nat} (hi : i ≤ ns.length) : bestUpTo ns i < ns.length := by
  rcases Nat.eq_zero_or_pos i with e | e
  · subst e; exact h
  · have := bestUpTo_lt ns i e; omega
/-- it is the first of the greatest -/
theorem bestUpTo_best (ns : List Int) : ∀ i, (∀ j, j < i → nth ns (j : Nat) ≤ nth ns (bestUpTo ns i)) ∧ (∀ j, j < bestUpTo ns i → nth ns (j : Nat) < nth ns (bestUpTo ns i))
  | 0 => ⟨fun j h => absurd h (Nat.not_lt_zero j), fun j h => absurd h (Nat.not_lt_zero j)⟩
  | i + 1 => by
    obtain ⟨h1, h2⟩ := bestUpTo_best ns i
    by_cases c : nth ns (bestUpTo ns i) < nth ns i
    · have e : bestUpTo ns (i + 1) = i := if_pos c
      rw [e]
      refine ⟨fun j hj => ?_, fun j hj => ?_⟩
      · by_cases q : j = i
        · subst q; exact Int.le_refl _
        · have := h1 j (by omega); omega
      · have := h1 j hj; omega
    · have e : bestUpTo ns (i + 1) = bestUpTo ns i := if_neg c
      rw [e]
      refine ⟨fun j hj => ?_, fun j hj => h2 j hj⟩
      by_cases q : j = i
      · subst q; omega
      · exact h1 j (by omega)

def sp_greatest (K : PySem.W.Frag) : Sp := fun vs H Q _ => ∃ (b : Bool) (a : Addr) (ns : List Int), vs = [.ref a] ∧ Sq b K H a (ns.map V.int) ∧ 0 < ns.length ∧ ∀ H', Same H H' → Q (.int (bestUpTo ns ns.length : Nat)) H'


theorem ok_greatest (T : Txt K mg) : FnOk P w K mg base CX0 1 T.a_greatest T.d_greatest ["weights"] (sp_greatest K) := by
  refine T.F_greatest.ok sc_greatest (fun vs H Q E h => ?_) (fun cdv A outer s H vs Q E hr h => ?_)
  · obtain ⟨_, _, _, rfl, _⟩ := h
    rfl
  · obtain ⟨b, a, ns, rfl, hS, hpos, k⟩ := h
    refine ⟨_, (pss_cons (ps_set (i := 1) sc_greatest.nd rfl (Or.inl rfl) pe_int)
      (pss_cons (ps_for PassesOwn.never rfl (k_enumS (K := K) rfl (by rfl) T.z_enumerate (pa_cons (pv 0) pa_nil)) (k_tup (K := K) rfl rfl (pgs_cons (pg_name (i := 2) sc_greatest.nd rfl (Or.inl rfl)) (pgs_cons (pg_name (i := 3) sc_greatest.nd rfl (Or.inl rfl)) pgs_nil)))
      (pss_one (ps_if (pt_cmpR op_gt (pv 3) (pe_ix (k_ix (K := K) rfl) (pv 0) (pv 1) (fun _ _ => rfl)) (nomark _)) (pss_one (ps_set (i := 1) sc_greatest.nd rfl (Or.inl rfl) (pv 2))) pss_nil)))
      (pss_one (ps_ret (pv 1))))), ?_⟩
    refine go_start (σ' := [some (.ref a), none, none, none]) rfl ?_
    try dsimp only [cxOf, Cx.nox, Cx.wish]
    walk_at "go"
    refine l_enum (b := b) (ns.map V.int) (fun i σ H' => ∃ y2 y3, σ = [some (.ref a), some (.int (bestUpTo ns i : Nat)), y2, y3] ∧ Same H H') (by walk_at "sq") ⟨none, none, rfl, Same.refl _⟩ ?_ ?_ ?_
    · rintro i σ H' hi ⟨_, _, _, sm⟩
      exact sm.sq hS
    · rintro i x T' σ H' hi hx ⟨y2, y3, rfl, sm⟩ hT
      rw [List.length_map] at hi
      have hxe : x = .int (nth ns (i : Nat)) := by
        rw [List.getElem?_map, List.getElem?_eq_getElem hi] at hx
        rw [← Option.some.inj hx, nth_nat, List.getD_eq_getElem?_getD, List.getElem?_eq_getElem hi]
        rfl
      subst hxe
      have hb := bestUpTo_len (ns := ns) hpos (i := i) (by omega)
      have sT : Same H (upd H' T' (.tup [.int (i : Int), .int (nth ns (i : Nat))])) := sm.trans (Same.new hT)
      refine w_pair (Sq.tup upd_same) ?_
      walk_at "go"
      refine w_iteD (fun hc => ?_) (fun hc => ?_)
      · walk_at "go"
        have e : bestUpTo ns (i + 1) = i := if_pos hc
        exact ⟨_, _, by rw [e]; rfl, sT⟩
      · walk_at "go"
        have e : bestUpTo ns (i + 1) = bestUpTo ns i := if_neg hc
        exact ⟨_, _, by rw [e]; rfl, sT⟩
    · rintro σ H' ⟨y2, y3, rfl, sm⟩
      rw [List.length_map]
      walk_at "go"
      exact k _ sm


/-! ### by_number -/
/-- the place among whose share r falls is one alone -/
theorem pre_one {ns : List Int} (hn : ∀ x ∈ ns, (0 : Int) ≤ x) {r : Int} {i j : Nat} (hi : i < ns.length) (hj : j < ns.length) (h1 : pre ns i ≤ r) (h2 : r < pre ns (i + 1)) (h3 : pre ns j ≤ r) (h4 : r < pre ns (j + 1)) : i = j := by
  rcases Nat.lt_trichotomy i j with h | h | h
  · have := pre_le hn (show i + 1 ≤ j from h) (by omega); omega
  · exact h
  · have := pre_le hn (show j + 1 ≤ i from h) (by omega); omega

def sp_by_number (K : PySem.W.Frag) : Sp := fun vs H Q _ => ∃ (b : Bool) (a : Addr) (ns : List Int) (n : Int), vs = [.ref a, .int n] ∧ Sq b K H a (ns.map V.int) ∧ (∀ x ∈ ns, (0 : Int) ≤ x) ∧ 0 < ns.sum ∧
  ∀ (j : Nat) H', j < ns.length → pre ns j ≤ n % ns.sum → n % ns.sum < pre ns (j + 1) → Same H H' → Q (.int (j : Nat)) H'


theorem ok_by_number (T : Txt K mg) : FnOk P w K mg base CX0 1 T.a_by_number T.d_by_number ["weights", "number"] (sp_by_number K) := by
  refine T.F_by_number.ok sc_by_number (fun vs H Q E h => ?_) (fun cdv A outer s H vs Q E hr h => ?_)
  · obtain ⟨_, _, _, _, rfl, _⟩ := h
    rfl
  · obtain ⟨b, a, ns, n, rfl, hS, hn, hpos, k⟩ := h
    refine ⟨_, (pss_cons (ps_set (i := 2) sc_by_number.nd rfl (Or.inl rfl) (pe_op op_mod (pe_callTy cr_int1 (by rfl) T.z_int (by decide +kernel) (pa_cons (pv 1) pa_nil)) (pe_callB (k_sumS (K := K) rfl rfl) (by rfl) T.z_sum (by decide +kernel) (pa_cons (pv 0) pa_nil))))
      (pss_cons (ps_set (i := 3) sc_by_number.nd rfl (Or.inl rfl) pe_int)
      (pss_cons (ps_while PassesOwn.never (pt_cmpR op_ge (pv 2) (pe_ix (k_ix (K := K) rfl) (pv 0) (pv 3) (fun _ _ => rfl)) (nomark _))
      (pss_cons (ps_aug (i := 2) sc_by_number.nd rfl (Or.inl rfl) (pe_ix (k_ix (K := K) rfl) (pv 0) (pv 3) (fun _ _ => rfl)) ip_sub)
      (pss_one (ps_aug (i := 3) sc_by_number.nd rfl (Or.inl rfl) pe_int ip_add))))
      (pss_one (ps_ret (pv 3)))))), ?_⟩
    refine go_start (σ' := [some (.ref a), some (.int n), none, none]) rfl ?_
    try dsimp only [cxOf, Cx.nox, Cx.wish]
    walk_at "go"
    have hr0 : 0 ≤ n % ns.sum := Int.emod_nonneg _ (by omega)
    have hr1 : n % ns.sum < ns.sum := Int.emod_lt_of_pos _ hpos
    refine ⟨fun m σ H' => ∃ j : Nat, m = ns.length - j ∧ j < ns.length ∧ σ = [some (.ref a), some (.int n), some (.int (n % ns.sum - pre ns j)), some (.int (j : Nat))] ∧ pre ns j ≤ n % ns.sum ∧ H' = H, ⟨ns.length, 0, by omega, ?_, ?_, ?_, rfl⟩, ?_⟩
    · cases ns with
      | nil => exact absurd hpos (by simp)
      | cons _ _ => exact Nat.succ_pos _
    · rw [pre_zero, Int.sub_zero]; rfl
    · rw [pre_zero]; exact hr0
    · rintro m σ H' ⟨j, rfl, hj, rfl, hle, rfl⟩
      walk_at "go"
      have hs := pre_succ (ns := ns) hj
      refine w_iteD (fun hc => ?_) (fun hc => ?_)
      · have hj2 : j + 1 < ns.length := by
          rcases Nat.lt_or_ge (j + 1) ns.length with q | q
          · exact q
          · have e : j + 1 = ns.length := by omega
            rw [e, pre_all] at hs
            omega
        refine ⟨fun σ' H'' => σ' = [some (.ref a), some (.int n), some (.int (n % ns.sum - pre ns (j + 1))), some (.int ((j + 1 : Nat) : Int))] ∧ H'' = H', fun σ' H'' q => ⟨ns.length - (j + 1), by omega, j + 1, rfl, hj2, q.1, by omega, q.2⟩, ?_⟩
        walk_at "go"
        refine ⟨?_, rfl⟩
        rw [hs]
        show [some (V.ref a), some (V.int n), some (V.int (n % ns.sum - pre ns j - nth ns (j : Nat))), some (V.int ((j : Int) + 1))] = _
        rw [show n % ns.sum - pre ns j - nth ns (j : Nat) = n % ns.sum - (pre ns j + nth ns (j : Nat)) by omega]
        rfl
      · walk_at "go"
        exact k j _ hj hle (by omega) (Same.refl _)


/-! ### rules: the code -/
def vO : Option Int → V
  | none => .non
  | some i => .int i
abbrev Steps := List (List (Option Int))
def rowsV (st : Steps) : List (List V) := st.map fun r => r.map vO
structure StepsOk (st : Steps) (n L : Nat) : Prop where
  len : st.length = n
  row : ∀ r ∈ st, r.length = L
  small : ∀ r ∈ st, ∀ q : Int, some q ∈ r → 0 ≤ q ∧ q < n
  n0 : 1 ≤ n
  n1 : n ≤ 100
  L0 : 1 ≤ L
  L1 : L ≤ 100
def stepR (st : Steps) (s : Option Int) (l : Int) : Option Int := s.bind fun q => (st.getD q.toNat []).getD l.toNat none
def afterR (st : Steps) (s : Option Int) (ls : List Int) : Option Int := ls.foldl (stepR st) s
theorem afterR_none {st : Steps} : ∀ ls : List Int, afterR st none ls = none
  | [] => rfl
  | _ :: r => afterR_none r
theorem afterR_take {st : Steps} {s : Option Int} {ls : List Int} {i : Nat} (hi : i < ls.length) : afterR st s (ls.take (i + 1)) = stepR st (afterR st s (ls.take i)) (nth ls (i : Nat)) := by
  unfold afterR
  rw [List.take_add_one, List.getElem?_eq_getElem hi, List.foldl_append, nth_nat, List.getD_eq_getElem?_getD, List.getElem?_eq_getElem hi]
  rfl
/-- what a step finds -/
theorem step_at {st : Steps} {n L : Nat} (ok : StepsOk st n L) {q l : Int} (q0 : 0 ≤ q) (q1 : q < n) (l0 : 0 ≤ l) (l1 : l < L) : ∃ r x, st[q.toNat]? = some r ∧ r ∈ st ∧ r[l.toNat]? = some x ∧ stepR st (some q) l = x ∧ ∀ q', x = some q' → 0 ≤ q' ∧ q' < n := by
  have hl := ok.len
  have h1 : st[q.toNat]? = some (st[q.toNat]'(by omega)) := List.getElem?_eq_getElem (by omega)
  generalize st[q.toNat]'(by omega) = r at h1
  have hm := List.mem_of_getElem? h1
  have hr := ok.row r hm
  have h2 : r[l.toNat]? = some (r[l.toNat]'(by omega)) := List.getElem?_eq_getElem (by omega)
  generalize r[l.toNat]'(by omega) = x at h2
  refine ⟨r, x, h1, hm, h2, ?_, fun q' e => ok.small r hm q' (by rw [← e]; exact List.mem_of_getElem? h2)⟩
  unfold stepR
  simp only [Option.bind_some, List.getD_eq_getElem?_getD, h1, Option.getD_some, h2]
theorem rowsV_at {st : Steps} {i : Nat} {r : List (Option Int)} (h : st[i]? = some r) : (rowsV st)[i]? = some (r.map vO) := by
  unfold rowsV
  rw [List.getElem?_map, h]
  rfl
theorem rowsV_len (st : Steps) : (rowsV st).length = st.length := by unfold rowsV; rw [List.length_map]
theorem vO_at {r : List (Option Int)} {j : Nat} {x : Option Int} (h : r[j]? = some x) : (r.map vO)[j]? = some (vO x) := by
  rw [List.getElem?_map, h]
  rfl
/-- steps[q][l], steps at v -/
theorem steps_look {b1 b2 : Bool} {K : PySem.W.Frag} {H : Hp} {v : V} {st : Steps} {n L : Nat} (ok : StepsOk st n L) (h : RRows b1 b2 K H v (rowsV st)) {q l : Int} (q0 : 0 ≤ q) (q1 : q < n) (l0 : 0 ≤ l) (l1 : l < L) :
    ∃ a vs p r, v = .ref a ∧ Sq b1 K H a vs ∧ atI vs q = some (.ref p) ∧ Sq b2 K H p r ∧ atI r l = some (vO (stepR st (some q) l)) ∧ ∀ q', stepR st (some q) l = some q' → 0 ≤ q' ∧ q' < n := by
  obtain ⟨r, x, h1, _, h2, h3, h4⟩ := step_at ok q0 q1 l0 l1
  obtain ⟨a, vs, p, e, hs, _, hv, hp⟩ := RRows.get h (rowsV_at h1)
  refine ⟨a, vs, p, _, e, hs, ?_, hp, ?_, by rw [h3]; exact h4⟩
  · rw [show q = ((q.toNat : Nat) : Int) by omega]
    exact atI_nat hv
  · rw [h3, show l = ((l.toNat : Nat) : Int) by omega]
    exact atI_nat (vO_at h2)
theorem afterR_small {st : Steps} {n L : Nat} (ok : StepsOk st n L) : ∀ (ls : List Int) (s : Option Int), (∀ q, s = some q → 0 ≤ q ∧ q < n) → (∀ l ∈ ls, 0 ≤ l ∧ l < L) → ∀ q, afterR st s ls = some q → 0 ≤ q ∧ q < n
  | [], s, hs, _, q, e => hs q e
  | l :: r, s, hs, hl, q, e => by
    refine afterR_small ok r (stepR st s l) (fun q' e' => ?_) (fun l' h => hl l' (List.mem_cons_of_mem _ h)) q e
    have hl' := hl l (List.mem_cons_self ..)
    cases s with
    | none => cases e'
    | some p =>
      obtain ⟨_, x, _, _, _, h3, h4⟩ := step_at ok (hs p rfl).1 (hs p rfl).2 hl'.1 hl'.2
      rw [h3] at e'
      exact h4 q' e'
def RuleF (s : Int) (at_ : Addr) : List (Str × V) := [("start", .int s), ("steps", .ref at_)]
def IsRule (K : PySem.W.Frag) (C : Addr) (H : Hp) (r : Addr) (s : Int) (st : Steps) : Prop := ∃ dx at_, H r = some (.ins C dx (RuleF s at_)) ∧ RRows false false K H (.ref at_) (rowsV st)
theorem rule_same {K : PySem.W.Frag} {C : Addr} {H H' : Hp} {r : Addr} {s : Int} {st : Steps} (sm : Same H H') (h : IsRule K C H r s st) : IsRule K C H' r s st := by
  obtain ⟨dx, a, h1, h2⟩ := h
  exact ⟨dx, a, sm _ _ h1, RRows.mono _ _ _ _ sm h2⟩
theorem rule_upd {K : PySem.W.Frag} {C : Addr} {H : Hp} {r q : Addr} {xs : List V} {o : HO} {s : Int} {st : Steps} (hq : H q = some (.lst xs)) (h : IsRule K C H r s st) : IsRule K C (upd H q o) r s st := by
  obtain ⟨dx, a, h1, h2⟩ := h
  exact ⟨dx, a, (upd_ne (fun e => by rw [e, hq] at h1; cases h1)).trans h1, h2.updL hq⟩
def sp_Rule___init__ (K : PySem.W.Frag) (C : Addr) : Sp := fun vs H Q _ => ∃ (r dx : Addr) (s : Int) (v : V) (b1 b2 : Bool) (st : Steps), vs = [.ref r, .int s, v] ∧ H r = some (.ins C dx []) ∧ RRows b1 b2 K H v (rowsV st) ∧ st.length ≤ 1000 ∧
  ∀ H', Fr r H H' → IsRule K C H' r s st → Q .non H'
theorem ok_Rule___init__ (T : Txt K mg) : FnOk P w K mg base CX0 1 T.a_Rule___init__ T.d_Rule___init__ ["self", "start", "steps"] (sp_Rule___init__ K T.c_Rule) := by
  refine T.F_Rule___init__.ok sc_Rule___init__ (fun vs H Q E h => ?_) (fun cdv A outer s H vs Q E hr h => ?_)
  · obtain ⟨_, _, _, _, _, _, _, rfl, _⟩ := h
    rfl
  · obtain ⟨r, dx, s0, v, b1, b2, st, rfl, h0, hS, hz, k⟩ := h
    have cF := T.C_Rule
    have n1 := T.n_Rule_start
    have n2 := T.n_Rule_steps
    refine ⟨_, (pss_cons (k_sfld (K := K) rfl (pv 0) (pv 1) rfl)
      (pss_one (k_sfld (K := K) rfl (pv 0) (pe_callTy (k_tupS (K := K) rfl) (by rfl) T.z_tuple (by decide +kernel) (pa_cons (pe_lc (own := [("row", 3)]) (g := gName 3) (tt := tYes) rfl sc_Rule___init__.nd (k_seqS (K := K) rfl (pv 2)) (blkOk_by (own := [("row", 3)]) (by kernel_rfl)) (fun _ _ _ _ _ => (pg_name (i := 3) sc_Rule___init__.nd rfl (by first | exact Or.inl rfl | exact Or.inr rfl))) (fun _ _ _ _ _ => pts_nil) (fun _ _ _ _ _ => (pe_callTy (k_tupS (K := K) rfl) (by rfl) T.z_tuple (by decide +kernel) (pa_cons (pv 3) pa_nil)))) pa_nil)) rfl))), ?_⟩
    refine go_start (σ' := [some (.ref r), some (.int s0), some v, none]) rfl ?_
    try dsimp only [cxOf, Cx.nox, Cx.wish]
    walk_at "go"
    have f1 : Fr r H (upd H r (.ins T.c_Rule dx [("start", .int s0)])) := (Fr.refl _ _).upd _
    have h1 : (upd H r (.ins T.c_Rule dx [("start", .int s0)])) r = some (.ins T.c_Rule dx [("start", .int s0)]) := upd_same
    have hS1 := hS.fr f1 ⟨_, _, _, h0⟩
    generalize upd H r (.ins T.c_Rule dx [("start", .int s0)]) = H1 at f1 h1 hS1 ⊢
    obtain ⟨a, xs, rfl, hx, hxl, hxr⟩ := id hS1
    rw [rowsV_len] at hxl
    refine c_rep (R := RRw false K) RRw.mono RRw.tup xs hx (rowsV st) (by rw [rowsV_len]; omega) (line_of1 (by omega)) (fun _ => rfl) (fun i x d H2 N hi hxi hd s2 hN => ?_) (fun D H2 ys hD s2 e2 hyl hyr => ?_)
    · obtain ⟨p, rfl, hp⟩ := hxr i x d hxi hd
      walk_at "go"
      refine w_tupAny (s2.sq hp) fun p' H3 s3 hp' => ?_
      walk_at "go"
      exact hN _ _ s3 ⟨p', rfl, hp'⟩
    walk_at "go"
    refine w_tupL (Sq.lst e2) fun t ht => ?_
    have s3 := Same.new (o := .tup ys) ht
    have et : (upd H2 t (.tup ys)) t = some (.tup ys) := upd_same
    generalize upd H2 t (.tup ys) = H3 at s3 et ⊢
    have s13 := s2.trans s3
    have h3 := s13 _ _ h1
    have hR : RRows false false K H3 (.ref t) (rowsV st) := ⟨t, ys, rfl, Sq.tup et, hyl, fun i y d a b => RRw.mono _ _ _ _ s3 (hyr i y d a b)⟩
    walk_at "go"
    have f4 : Fr r H3 (upd H3 r (.ins T.c_Rule dx (RuleF s0 t))) := (Fr.refl _ _).upd _
    exact k _ ((f1.trans (Fr.same s13)).trans f4) ⟨dx, t, upd_same, hR.fr f4 ⟨_, _, _, h3⟩⟩
def sp_Rule_after (K : PySem.W.Frag) (C : Addr) : Sp := fun vs H Q _ => ∃ (r tp : Addr) (s : Int) (st : Steps) (n L : Nat) (b : Bool) (ls : List Int), vs = [.ref r, .ref tp] ∧ IsRule K C H r s st ∧ StepsOk st n L ∧ 0 ≤ s ∧ s < n ∧ Sq b K H tp (ls.map V.int) ∧ (∀ l ∈ ls, 0 ≤ l ∧ l < L) ∧
  Q (vO (afterR st (some s) ls)) H
theorem ok_Rule_after (T : Txt K mg) : FnOk P w K mg base CX0 1 T.a_Rule_after T.d_Rule_after ["self", "text"] (sp_Rule_after K T.c_Rule) := by
  refine T.F_Rule_after.ok sc_Rule_after (fun vs H Q E h => ?_) (fun cdv A outer s H vs Q E hr h => ?_)
  · obtain ⟨_, _, _, _, _, _, _, _, rfl, _⟩ := h
    rfl
  · obtain ⟨r, tp, s0, st, n, L, b, ls, rfl, ⟨dx, at_, h0, hR⟩, ok, hs0, hs1, hT, hls, k⟩ := h
    unfold RuleF at h0
    have cF := T.C_Rule
    have n1 := T.n_Rule_start
    have n2 := T.n_Rule_steps
    refine ⟨_, (pss_cons (ps_set (i := 2) sc_Rule_after.nd rfl (Or.inl rfl) (k_fld (K := K) rfl (pv 0) rfl))
      (pss_cons (ps_for PassesOwn.never rfl (k_seqS (K := K) rfl (pv 1)) (pg_name (i := 3) sc_Rule_after.nd rfl (Or.inl rfl))
      (pss_cons (ps_if (pt_cmpR op_isNN (pv 2) pe_non (nomark _)) (pss_one (ps_ret pe_non)) pss_nil)
      (pss_one (ps_set (i := 2) sc_Rule_after.nd rfl (Or.inl rfl) (pe_ix (k_ix (K := K) rfl) (pe_ix (k_ix (K := K) rfl) (k_fld (K := K) rfl (pv 0) rfl) (pv 2) (fun _ _ => rfl)) (pv 3) (fun _ _ => rfl))))))
      (pss_one (ps_ret (pv 2))))), ?_⟩
    refine go_start (σ' := [some (.ref r), some (.ref tp), none, none]) rfl ?_
    try dsimp only [cxOf, Cx.nox, Cx.wish]
    walk_at "go"
    refine l_seq (b := b) (ls.map V.int) (fun i σ H' => ∃ y3, σ = [some (.ref r), some (.ref tp), some (vO (afterR st (some s0) (ls.take i))), y3] ∧ H' = H) hT ⟨none, rfl, rfl⟩ (fun i σ H' _ ⟨_, _, e⟩ => by rw [e]; exact hT) ?_ ?_
    · rintro i x σ H' hi hx ⟨y3, rfl, rfl⟩
      obtain ⟨rfl, hi1⟩ := vec_at hx
      have hli := hls _ (nth_mem (ns := ls) (i := ((i : Nat) : Int)) (by omega) (by omega))
      have e := afterR_take (st := st) (s := some s0) hi1
      have hq := afterR_small ok (ls.take i) (some s0) (fun q e => by cases e; exact ⟨hs0, hs1⟩) (fun l h => hls l (List.mem_of_mem_take h))
      have hsplit : afterR st (some s0) ls = afterR st (afterR st (some s0) (ls.take i)) (ls.drop i) := by
        unfold afterR
        rw [← List.foldl_append, List.take_append_drop]
      generalize afterR st (some s0) (ls.take i) = o at e hq hsplit ⊢
      rw [e]
      cases o with
      | none =>
        dsimp only [vO]
        walk_at "go"
        rw [hsplit, afterR_none] at k
        exact k
      | some q =>
        dsimp only [vO]
        have hq := hq q rfl
        obtain ⟨a, vs, p, rr, ea, hv, hat, hp, hat2, _⟩ := steps_look ok hR hq.1 hq.2 hli.1 hli.2
        cases ea
        walk_at "go"
        refine w_ix hv hat ?_
        walk_at "go"
        refine w_ix hp hat2 ?_
        walk_at "go"
        exact ⟨_, rfl, rfl⟩
    · rintro σ H' ⟨y3, rfl, rfl⟩
      rw [List.length_map, List.take_length]
      walk_at "go"
      exact k
def sp_Rule_lets (K : PySem.W.Frag) (C : Addr) : Sp := fun vs H Q _ => ∃ (r tp : Addr) (s l : Int) (st : Steps) (n L : Nat) (b : Bool) (ls : List Int), vs = [.ref r, .ref tp, .int l] ∧ IsRule K C H r s st ∧ StepsOk st n L ∧ 0 ≤ s ∧ s < n ∧ Sq b K H tp (ls.map V.int) ∧ (∀ l ∈ ls, 0 ≤ l ∧ l < L) ∧ ls.length ≤ 100000 ∧ 0 ≤ l ∧ l < L ∧
  ∀ H', Same H H' → Q (.bl (stepR st (afterR st (some s) ls) l).isSome) H'
theorem ok_Rule_lets (T : Txt K mg) : FnOk P w K mg base CX0 2 T.a_Rule_lets T.d_Rule_lets ["self", "text", "letter"] (sp_Rule_lets K T.c_Rule) := by
  refine T.F_Rule_lets.ok sc_Rule_lets (fun vs H Q E h => ?_) (fun cdv A outer s H vs Q E hr h => ?_)
  · obtain ⟨_, _, _, _, _, _, _, _, _, rfl, _⟩ := h
    rfl
  · obtain ⟨r, tp, s0, l, st, n, L, b, ls, rfl, hI, ok, hs0, hs1, hT, hls, hz, hl0, hl1, k⟩ := h
    have cF := T.C_Rule
    obtain ⟨dx, at_, h0, hR⟩ := id hI
    unfold RuleF at h0
    refine ⟨_, (pss_one (ps_ret (pe_cmpR op_notNN (pe_meth (pv 0) T.C_Rule T.m_Rule_after (ok_Rule_after T) (hr.mono (by decide)) T.b_Rule_after .nil pass0 (pa_cons (pe_op op_catA (pe_callTy (k_tupS (K := K) rfl) (by rfl) T.z_tuple (by decide +kernel) (pa_cons (pv 1) pa_nil)) (pe_tup (pa_cons (pv 2) pa_nil))) pa_nil)) pe_non (nomark _)))), ?_⟩
    refine go_start (σ' := [some (.ref r), some (.ref tp), some (.int l)]) rfl ?_
    try dsimp only [cxOf, Cx.nox, Cx.wish]
    walk_at "go"
    refine w_tupAny hT fun p1 H1 s1 hp1 => ?_
    walk_at "go"
    refine ⟨by show 1 ≤ sizeLine; decide, fun p2 hp2 => ?_⟩
    have s2 := Same.new (o := .tup [.int l]) hp2
    refine w_catA (s2.sq hp1) (Sq.tup (xs := [.int l]) upd_same) (by rw [List.length_map]; show ls.length + 1 ≤ _; omega) fun p3 H3 s3 hp3 => ?_
    walk_at "go"
    have e : ls.map V.int ++ [.int l] = (ls ++ [l]).map V.int := by rw [List.map_append]; rfl
    rw [e] at hp3
    have s03 := (s1.trans s2).trans s3
    refine ⟨r, p3, s0, st, n, L, false, ls ++ [l], rfl, rule_same s03 hI, ok, hs0, hs1, hp3, fun l' h => ?_, ?_⟩
    · rcases List.mem_append.mp h with h | h
      · exact hls l' h
      · rw [List.mem_singleton.mp h]; exact ⟨hl0, hl1⟩
    have e2 : afterR st (some s0) (ls ++ [l]) = stepR st (afterR st (some s0) ls) l := by
      unfold afterR
      rw [List.foldl_append]; rfl
    rw [e2]
    generalize stepR st (afterR st (some s0) ls) l = o at k ⊢
    cases o with
    | none =>
      dsimp only [vO]
      walk_at "go"
      exact k _ s03
    | some q =>
      dsimp only [vO]
      walk_at "go"
      exact k _ s03

/-! ### asks -/
structure AskD where
  prompt : List Nat
  most : Nat
  stops : List (List Nat)
  tape : List Int
  rule : Option (Int × Steps)
def RuleOk (L : Nat) : Option (Int × Steps) → Prop
  | none => True
  | some (s, st) => ∃ n, StepsOk st n L ∧ 0 ≤ s ∧ s < n
structure AskOk (ak : AskD) (L : Nat) : Prop where
  prompt : ∀ l ∈ ak.prompt, l < L
  plen : 1 ≤ ak.prompt.length ∧ ak.prompt.length ≤ 30
  most : 1 ≤ ak.most ∧ ak.most ≤ 30
  stops : ∀ s ∈ ak.stops, 1 ≤ s.length ∧ s.length ≤ 10 ∧ ∀ l ∈ s, l < L
  slen : ak.stops.length ≤ 10
  tape : ∀ t ∈ ak.tape, (0 : Int) ≤ t
  tlen : ak.tape.length ≤ 100
  rule : RuleOk L ak.rule
def stopsV (ss : List (List Nat)) : List (List V) := ss.map fun s => (natI s).map V.int
def IsRuleV (K : PySem.W.Frag) (CR : Addr) (H : Hp) (v : V) : Option (Int × Steps) → Prop
  | none => v = .non
  | some (s, st) => ∃ r, v = .ref r ∧ IsRule K CR H r s st
def AskF (ap : Addr) (most : Nat) (as_ at_ : Addr) (vr : V) : List (Str × V) := [("prompt", .ref ap), ("most", .int most), ("stops", .ref as_), ("tape", .ref at_), ("rule", vr)]
def IsAsk (K : PySem.W.Frag) (CA CR : Addr) (H : Hp) (a : Addr) (ak : AskD) : Prop := ∃ dx ap as_ at_ vr, H a = some (.ins CA dx (AskF ap ak.most as_ at_ vr)) ∧ Sq false K H ap ((natI ak.prompt).map V.int) ∧ RRows false false K H (.ref as_) (stopsV ak.stops) ∧ Sq false K H at_ (ak.tape.map V.int) ∧ IsRuleV K CR H vr ak.rule
theorem ruleV_same {K : PySem.W.Frag} {CR : Addr} {H H' : Hp} {v : V} {ru : Option (Int × Steps)} (sm : Same H H') (h : IsRuleV K CR H v ru) : IsRuleV K CR H' v ru := by
  cases ru with
  | none => exact h
  | some p =>
    obtain ⟨r, e, hr⟩ := h
    exact ⟨r, e, rule_same sm hr⟩
theorem ask_same {K : PySem.W.Frag} {CA CR : Addr} {H H' : Hp} {a : Addr} {ak : AskD} (sm : Same H H') (h : IsAsk K CA CR H a ak) : IsAsk K CA CR H' a ak := by
  obtain ⟨dx, ap, as_, at_, vr, h1, h2, h3, h4, h5⟩ := h
  exact ⟨dx, ap, as_, at_, vr, sm _ _ h1, sm.sq h2, RRows.mono _ _ _ _ sm h3, sm.sq h4, ruleV_same sm h5⟩
theorem rule_fr {K : PySem.W.Frag} {C : Addr} {H H' : Hp} {r t : Addr} {s : Int} {st : Steps} (f : Fr t H H') (ht : ∃ C dx fs, H t = some (.ins C dx fs)) (hrt : r ≠ t) (h : IsRule K C H r s st) : IsRule K C H' r s st := by
  obtain ⟨dx, a, h1, h2⟩ := h
  exact ⟨dx, a, f _ _ hrt h1, h2.fr f ht⟩
/-- an ask whose letters may be anything -/
structure AskV where
  prompt : List V
  most : Nat
  stops : List (List V)
  tape : List Int
  rule : Option (Int × Steps)
def AskD.v (ak : AskD) : AskV := ⟨(natI ak.prompt).map V.int, ak.most, stopsV ak.stops, ak.tape, ak.rule⟩
def IsAskV (K : PySem.W.Frag) (CA CR : Addr) (H : Hp) (a : Addr) (av : AskV) : Prop := ∃ dx ap as_ at_ vr, H a = some (.ins CA dx (AskF ap av.most as_ at_ vr)) ∧ Sq false K H ap av.prompt ∧ RRows false false K H (.ref as_) av.stops ∧ Sq false K H at_ (av.tape.map V.int) ∧ IsRuleV K CR H vr av.rule
theorem askV_same {K : PySem.W.Frag} {CA CR : Addr} {H H' : Hp} {a : Addr} {av : AskV} (sm : Same H H') (h : IsAskV K CA CR H a av) : IsAskV K CA CR H' a av := by
  obtain ⟨dx, ap, as_, at_, vr, h1, h2, h3, h4, h5⟩ := h
  exact ⟨dx, ap, as_, at_, vr, sm _ _ h1, sm.sq h2, RRows.mono _ _ _ _ sm h3, sm.sq h4, ruleV_same sm h5⟩
theorem fn_imp {P : Program} {w : World} {K : PySem.W.Frag} {mg : Str → Option Value} {base : Heap} {CX : CXT} {k : Nat} {f : Addr} {fd : FuncData} {ps : List Str} {sp sp' : Sp} (F : FnOk P w K mg base CX k f fd ps sp) (h : ∀ vs H Q E, sp' vs H Q E → sp vs H Q E) : FnOk P w K mg base CX k f fd ps sp' :=
  ⟨fun vs H Q E z => F.len vs H Q E (h _ _ _ _ z), fun A outer s H args us vs Q E hr e0 hb r z => F.run A outer s H args us vs Q E hr e0 hb r (h _ _ _ _ z)⟩
def sp_AskInitV (K : PySem.W.Frag) (CA CR : Addr) : Sp := fun vs H Q _ => ∃ (a dx : Addr) (ak : AskV) (v1 v2 v3 vr : V) (b1 b2 : Bool), vs = [.ref a, v1, .int ak.most, v2, v3, vr] ∧ H a = some (.ins CA dx []) ∧ 1 ≤ ak.most ∧ ak.most ≤ 30 ∧ ak.stops.length ≤ 100 ∧
  (∃ c1 a1, v1 = .ref a1 ∧ Sq c1 K H a1 ak.prompt) ∧ RRows b1 b2 K H v2 ak.stops ∧ RVecX K H v3 ak.tape ∧ IsRuleV K CR H vr ak.rule ∧ vr ≠ .ref a ∧ ∀ H', Fr a H H' → IsAskV K CA CR H' a ak → Q .non H'
theorem ok_AskInitV (T : Txt K mg) : FnOk P w K mg base CX0 3 T.a_Ask___init__ T.d_Ask___init__ ["self", "prompt", "most", "stops", "tape", "rule"] (sp_AskInitV K T.c_Ask T.c_Rule) := by
  refine T.F_Ask___init__.ok sc_Ask___init__ (fun vs H Q E h => ?_) (fun cdv A outer s H vs Q E hr h => ?_)
  · obtain ⟨_, _, _, _, _, _, _, _, _, rfl, _⟩ := h
    rfl
  · obtain ⟨a, dx, ak, v1, v2, v3, vr, b1, b2, rfl, h0, hm1, hm2, hsl, h1, h2, h3, h4, hra, k⟩ := h
    have cA := T.C_Ask
    have n1 := T.n_Ask_prompt
    have n2 := T.n_Ask_most
    have n3 := T.n_Ask_stops
    have n4 := T.n_Ask_tape
    have n5 := T.n_Ask_rule
    refine ⟨_, (pss_cons (ps_if (pt_not (k_tru (K := K) rfl (pe_call (ok_is_between T) (hr.mono (by decide)) (by rfl) T.g_is_between T.F_is_between.kp T.b_is_between .nil pass0 (pa_cons (pv 2) (pa_cons pe_int (pa_cons (pe_glob (v := .int 30) (by rfl) T.gk_MOST_LETTERS ⟨_, rfl⟩) pa_nil)))) (by intro _; rfl))) (pss_one ps_never) pss_nil)
      (pss_cons (k_sfld (K := K) rfl (pv 0) (pe_callTy (k_tupS (K := K) rfl) (by rfl) T.z_tuple (by decide +kernel) (pa_cons (pv 1) pa_nil)) rfl)
      (pss_cons (k_sfld (K := K) rfl (pv 0) (pv 2) rfl)
      (pss_cons (k_sfld (K := K) rfl (pv 0) (pe_callTy (k_tupS (K := K) rfl) (by rfl) T.z_tuple (by decide +kernel) (pa_cons (pe_lc (own := [("stop", 6)]) (g := gName 6) (tt := tYes) rfl sc_Ask___init__.nd (k_seqS (K := K) rfl (pv 3)) (blkOk_by (own := [("stop", 6)]) (by kernel_rfl)) (fun _ _ _ _ _ => (pg_name (i := 6) sc_Ask___init__.nd rfl (by first | exact Or.inl rfl | exact Or.inr rfl))) (fun _ _ _ _ _ => pts_nil) (fun _ _ _ _ _ => (pe_callTy (k_tupS (K := K) rfl) (by rfl) T.z_tuple (by decide +kernel) (pa_cons (pv 6) pa_nil)))) pa_nil)) rfl)
      (pss_cons (k_sfld (K := K) rfl (pv 0) (pe_callTy (k_tupS (K := K) rfl) (by rfl) T.z_tuple (by decide +kernel) (pa_cons (pv 4) pa_nil)) rfl)
      (pss_one (k_sfld (K := K) rfl (pv 0) (pv 5) rfl))))))), ?_⟩
    refine go_start (σ' := [some (.ref a), some v1, some (.int ak.most), some v2, some v3, some vr, none]) rfl ?_
    try dsimp only [cxOf, Cx.nox, Cx.wish]
    walk_at "go"
    refine ⟨.int ak.most, 1, 30, _, rfl, .inl ⟨_, rfl, rfl⟩, ?_⟩
    rw [decide_eq_true (show (1 : Int) ≤ (ak.most : Int) ∧ (ak.most : Int) ≤ 30 by omega)]
    walk_at "go"
    obtain ⟨c1, a1, rfl, hq1⟩ := h1
    obtain ⟨c3, a3, rfl, hq3⟩ := h3
    have hr4 : ∀ {H1 H2 : Hp}, Fr a H1 H2 → (∃ C dx fs, H1 a = some (.ins C dx fs)) → IsRuleV K T.c_Rule H1 vr ak.rule → IsRuleV K T.c_Rule H2 vr ak.rule := fun {H1 H2} f ha h => by
      revert h
      cases ak.rule with
      | none => exact fun h => h
      | some p =>
        rintro ⟨r, e, h⟩
        exact ⟨r, e, rule_fr f ha (fun z => hra (by rw [e, z])) h⟩
    -- prompt
    refine w_tupAny hq1 fun ap H1 s1 hap => ?_
    have h01 := s1 _ _ h0
    have q2 := RRows.mono _ _ _ _ s1 h2
    have q3 := s1.sq hq3
    have q4 := ruleV_same s1 h4
    walk_at "go"
    have f2 : Fr a H1 (upd H1 a (.ins T.c_Ask dx [("prompt", .ref ap)])) := (Fr.refl _ _).upd _
    have h02 : (upd H1 a (.ins T.c_Ask dx [("prompt", .ref ap)])) a = some (.ins T.c_Ask dx [("prompt", .ref ap)]) := upd_same
    generalize upd H1 a (.ins T.c_Ask dx [("prompt", .ref ap)]) = H2 at f2 h02 ⊢
    have hap := f2.sqI ⟨_, _, _, h01⟩ hap
    have q2 := q2.fr f2 ⟨_, _, _, h01⟩
    have q3 := f2.sqI ⟨_, _, _, h01⟩ q3
    have q4 := hr4 f2 ⟨_, _, _, h01⟩ q4
    walk_at "go"
    -- most
    have f3 : Fr a H2 (upd H2 a (.ins T.c_Ask dx [("prompt", .ref ap), ("most", .int ak.most)])) := (Fr.refl _ _).upd _
    have h03 : (upd H2 a (.ins T.c_Ask dx [("prompt", .ref ap), ("most", .int ak.most)])) a = some (.ins T.c_Ask dx [("prompt", .ref ap), ("most", .int ak.most)]) := upd_same
    generalize upd H2 a (.ins T.c_Ask dx [("prompt", .ref ap), ("most", .int ak.most)]) = H3 at f3 h03 ⊢
    have hap := f3.sqI ⟨_, _, _, h02⟩ hap
    have q2 := q2.fr f3 ⟨_, _, _, h02⟩
    have q3 := f3.sqI ⟨_, _, _, h02⟩ q3
    have q4 := hr4 f3 ⟨_, _, _, h02⟩ q4
    -- stops
    obtain ⟨a2, xs, rfl, hx, hxl, hxr⟩ := id q2
    walk_at "go"
    refine c_rep (R := RRw false K) RRw.mono RRw.tup xs hx ak.stops (by omega) (line_of1 (by omega)) (fun _ => rfl) (fun i x d H4 N hi hxi hd s4 hN => ?_) (fun D H4 ys hD s4 e4 hyl hyr => ?_)
    · obtain ⟨p, rfl, hp⟩ := hxr i x d hxi hd
      walk_at "go"
      refine w_tupAny (s4.sq hp) fun p' H5 s5 hp' => ?_
      walk_at "go"
      exact hN _ _ s5 ⟨p', rfl, hp'⟩
    walk_at "go"
    refine w_tupL (Sq.lst e4) fun as_ has => ?_
    have s5 := Same.new (o := .tup ys) has
    have hS5 : RRows false false K (upd H4 as_ (.tup ys)) (.ref as_) ak.stops := ⟨as_, ys, rfl, Sq.tup upd_same, hyl, fun i y d a b => RRw.mono _ _ _ _ s5 (hyr i y d a b)⟩
    generalize upd H4 as_ (.tup ys) = H5 at s5 hS5 ⊢
    have s35 := s4.trans s5
    have h05 := s35 _ _ h03
    have hap := s35.sq hap
    have q3 := s35.sq q3
    have q4 := ruleV_same s35 q4
    walk_at "go"
    have f6 : Fr a H5 (upd H5 a (.ins T.c_Ask dx [("prompt", .ref ap), ("most", .int ak.most), ("stops", .ref as_)])) := (Fr.refl _ _).upd _
    have h06 : (upd H5 a (.ins T.c_Ask dx [("prompt", .ref ap), ("most", .int ak.most), ("stops", .ref as_)])) a = some (.ins T.c_Ask dx [("prompt", .ref ap), ("most", .int ak.most), ("stops", .ref as_)]) := upd_same
    generalize upd H5 a (.ins T.c_Ask dx [("prompt", .ref ap), ("most", .int ak.most), ("stops", .ref as_)]) = H6 at f6 h06 ⊢
    have hap := f6.sqI ⟨_, _, _, h05⟩ hap
    have hS6 := hS5.fr f6 ⟨_, _, _, h05⟩
    have q3 := f6.sqI ⟨_, _, _, h05⟩ q3
    have q4 := hr4 f6 ⟨_, _, _, h05⟩ q4
    walk_at "go"
    -- tape
    refine w_tupAny q3 fun at_ H7 s7 hat => ?_
    have h07 := s7 _ _ h06
    have hap := s7.sq hap
    have hS7 := RRows.mono _ _ _ _ s7 hS6
    have q4 := ruleV_same s7 q4
    walk_at "go"
    have f8 : Fr a H7 (upd H7 a (.ins T.c_Ask dx [("prompt", .ref ap), ("most", .int ak.most), ("stops", .ref as_), ("tape", .ref at_)])) := (Fr.refl _ _).upd _
    have h08 : (upd H7 a (.ins T.c_Ask dx [("prompt", .ref ap), ("most", .int ak.most), ("stops", .ref as_), ("tape", .ref at_)])) a = some (.ins T.c_Ask dx [("prompt", .ref ap), ("most", .int ak.most), ("stops", .ref as_), ("tape", .ref at_)]) := upd_same
    generalize upd H7 a (.ins T.c_Ask dx [("prompt", .ref ap), ("most", .int ak.most), ("stops", .ref as_), ("tape", .ref at_)]) = H8 at f8 h08 ⊢
    have hap := f8.sqI ⟨_, _, _, h07⟩ hap
    have hS8 := hS7.fr f8 ⟨_, _, _, h07⟩
    have hat := f8.sqI ⟨_, _, _, h07⟩ hat
    have q4 := hr4 f8 ⟨_, _, _, h07⟩ q4
    walk_at "go"
    have f9 : Fr a H8 (upd H8 a (.ins T.c_Ask dx (AskF ap ak.most as_ at_ vr))) := (Fr.refl _ _).upd _
    exact k _ ((((((((Fr.same s1).trans f2).trans f3).trans (Fr.same s35)).trans f6).trans (Fr.same s7)).trans f8).trans f9)
      ⟨dx, ap, as_, at_, vr, upd_same, f9.sqI ⟨_, _, _, h08⟩ hap, hS8.fr f9 ⟨_, _, _, h08⟩, f9.sqI ⟨_, _, _, h08⟩ hat, hr4 f9 ⟨_, _, _, h08⟩ q4⟩
def sp_Ask___init__ (K : PySem.W.Frag) (CA CR : Addr) : Sp := fun vs H Q _ => ∃ (a dx : Addr) (ak : AskD) (v1 v2 v3 vr : V) (b1 b2 : Bool) (L : Nat), vs = [.ref a, v1, .int ak.most, v2, v3, vr] ∧ H a = some (.ins CA dx []) ∧ AskOk ak L ∧
  RVecX K H v1 (natI ak.prompt) ∧ RRows b1 b2 K H v2 (stopsV ak.stops) ∧ RVecX K H v3 ak.tape ∧ IsRuleV K CR H vr ak.rule ∧ vr ≠ .ref a ∧ ∀ H', Fr a H H' → IsAsk K CA CR H' a ak → Q .non H'
theorem ok_Ask___init__ (T : Txt K mg) : FnOk P w K mg base CX0 3 T.a_Ask___init__ T.d_Ask___init__ ["self", "prompt", "most", "stops", "tape", "rule"] (sp_Ask___init__ K T.c_Ask T.c_Rule) := fn_imp (ok_AskInitV T) fun vs H Q E h => by
  obtain ⟨a, dx, ak, v1, v2, v3, vr, b1, b2, L, rfl, h0, ok, h1, h2, h3, h4, hra, k⟩ := h
  have hm := ok.most
  have hsl := ok.slen
  exact ⟨a, dx, ak.v, v1, v2, v3, vr, b1, b2, rfl, h0, hm.1, hm.2, by show (stopsV ak.stops).length ≤ 100; unfold stopsV; rw [List.length_map]; omega, h1, h2, h3, h4, hra, k⟩
def letW (ru : Option (Int × Steps)) (ws : List Int) (text : List Nat) : List Int := match ru with
  | none => ws
  | some (s, st) => (List.range ws.length).map fun l => nth ws ((l : Nat) : Int) * (if (stepR st (afterR st (some s) (natI text)) ((l : Nat) : Int)).isSome then 1 else 0)
theorem letW_len (ru : Option (Int × Steps)) (ws : List Int) (text : List Nat) : (letW ru ws text).length = ws.length := by
  cases ru with
  | none => rfl
  | some p => show ((List.range ws.length).map _).length = _; rw [List.length_map, List.length_range]
theorem letW_nth {s : Int} {st : Steps} {ws : List Int} {text : List Nat} {l : Nat} (h : l < ws.length) : nth (letW (some (s, st)) ws text) ((l : Nat) : Int) = nth ws ((l : Nat) : Int) * (if (stepR st (afterR st (some s) (natI text)) ((l : Nat) : Int)).isSome then 1 else 0) := by
  show nth ((List.range ws.length).map _) _ = _
  rw [nth_nat, List.getD_eq_getElem?_getD, List.getElem?_map, List.getElem?_eq_getElem (by rw [List.length_range]; exact h), List.getElem_range]
  rfl

def sp_Ask_let_weights (K : PySem.W.Frag) (CA CR : Addr) : Sp := fun vs H Q _ => ∃ (a : Addr) (ak : AskD) (v1 v2 : V) (ws : List Int) (text : List Nat) (L : Nat), vs = [.ref a, v1, v2] ∧ IsAsk K CA CR H a ak ∧ AskOk ak L ∧ RVecX K H v1 ws ∧ ws.length = L ∧ (∀ x ∈ ws, 0 ≤ x ∧ x ≤ 1000) ∧ RVecX K H v2 (natI text) ∧ (∀ l ∈ text, l < L) ∧ text.length ≤ 1000 ∧ L ≤ 100 ∧
  ∀ v' H', Same H H' → RVec false K H' v' (letW ak.rule ws text) → Q v' H'

theorem natI_lt {ls : List Nat} {L : Nat} (h : ∀ l ∈ ls, l < L) : ∀ l ∈ natI ls, (0 : Int) ≤ l ∧ l < L := fun l hl => by
  unfold natI at hl
  obtain ⟨x, hx, rfl⟩ := List.mem_map.mp hl
  have := h x hx
  omega

theorem ok_Ask_let_weights (T : Txt K mg) : FnOk P w K mg base CX0 3 T.a_Ask_let_weights T.d_Ask_let_weights ["self", "weights", "text"] (sp_Ask_let_weights K T.c_Ask T.c_Rule) := by
  refine T.F_Ask_let_weights.ok sc_Ask_let_weights (fun vs H Q E h => ?_) (fun cdv A outer s H vs Q E hr h => ?_)
  · obtain ⟨_, _, _, _, _, _, _, rfl, _⟩ := h
    rfl
  · obtain ⟨a, ak, v1, v2, ws, text, L, rfl, hA, ok, ⟨b1, a1, rfl, h1⟩, hwl, hwb, ⟨b2, a2, rfl, h2⟩, htx, htl, hL, k⟩ := h
    have cA := T.C_Ask
    have cR := T.C_Rule
    have n5 := T.n_Ask_rule
    obtain ⟨dx, ap, as_, at_, vr, h0, _, _, _, hru⟩ := hA
    unfold AskF at h0
    have hro := ok.rule
    refine ⟨_, (pss_cons (ps_if (pt_cmpR op_isNN (k_fld (K := K) rfl (pv 0) rfl) pe_non (nomark _)) (pss_one (ps_ret (pe_callTy (k_tupS (K := K) rfl) (by rfl) T.z_tuple (by decide +kernel) (pa_cons (pv 1) pa_nil)))) pss_nil)
      (pss_one (ps_ret (pe_callTy (k_tupS (K := K) rfl) (by rfl) T.z_tuple (by decide +kernel) (pa_cons (pe_lc (own := [("letter", 3), ("weight", 4)]) (g := gTup K 2 (gCons (gName 3) (gCons (gName 4) (gNil)))) (tt := tYes) rfl sc_Ask_let_weights.nd (k_enumS (K := K) rfl (by rfl) T.z_enumerate (pa_cons (pv 1) pa_nil)) (blkOk_by (own := [("letter", 3), ("weight", 4)]) (by kernel_rfl)) (fun _ _ _ _ _ => (k_tup (K := K) rfl rfl (pgs_cons (pg_name (i := 3) sc_Ask_let_weights.nd rfl (by first | exact Or.inl rfl | exact Or.inr rfl)) (pgs_cons (pg_name (i := 4) sc_Ask_let_weights.nd rfl (by first | exact Or.inl rfl | exact Or.inr rfl)) pgs_nil)))) (fun _ _ _ _ _ => pts_nil) (fun _ _ _ _ _ => (pe_op op_mul (pv 4) (pe_callTy cr_int1 (by rfl) T.z_int (by decide +kernel) (pa_cons (pe_meth (k_fld (K := K) rfl (pv 0) rfl) T.C_Rule T.m_Rule_lets (ok_Rule_lets T) (hr.mono (by decide)) T.b_Rule_lets .nil pass0 (pa_cons (pv 2) (pa_cons (pv 3) pa_nil))) pa_nil))))) pa_nil))))), ?_⟩
    refine go_start (σ' := [some (.ref a), some (.ref a1), some (.ref a2), none, none]) rfl ?_
    try dsimp only [cxOf, Cx.nox, Cx.wish]
    revert k hru hro
    cases ak.rule with
    | none =>
      intro k hru hro
      have hru : vr = .non := hru
      subst hru
      walk_at "go"
      refine w_tupAny h1 fun p H1 s1 hp => ?_
      walk_at "go"
      exact k _ _ s1 ⟨p, rfl, hp⟩
    | some p =>
      obtain ⟨s0, st⟩ := p
      intro k hru hro
      obtain ⟨r, rfl, hI⟩ := hru
      obtain ⟨n, okS, hs0, hs1⟩ := hro
      walk_at "go"
      refine c_intsE (b := b1) (ws.map V.int) h1 (letW (some (s0, st)) ws text) (by rw [letW_len, List.length_map]) (line_of1 (by rw [List.length_map]; omega)) (fun _ _ => rfl) (fun i x H1 N hi hx s1 hN => ?_) (fun D H1 hD s1 e1 => ?_)
      · obtain ⟨rfl, hi1⟩ := vec_at hx
        have h01 := s1 _ _ h0
        have hI1 := rule_same s1 hI
        obtain ⟨dx2, at2, h02, _⟩ := id hI1
        unfold RuleF at h02
        have hb := hwb _ (nth_mem (ns := ws) (i := ((i : Nat) : Int)) (by omega) (by omega))
        walk_at "go"
        refine ⟨r, a2, s0, _, st, n, L, b2, natI text, rfl, hI1, okS, hs0, hs1, s1.sq h2, natI_lt htx, by rw [natI_len]; omega, by omega, by omega, fun H2 s2 => ?_⟩
        have e := letW_nth (s := s0) (st := st) (text := text) hi1
        have hN2 := hN _ s2
        rw [e] at hN2
        cases hx : (stepR st (afterR st (some s0) (natI text)) ((i : Nat) : Int)).isSome with
        | true =>
          rw [hx] at hN2
          walk_at "go"
          exact hN2
        | false =>
          rw [hx] at hN2
          walk_at "go"
          exact hN2
      walk_at "go"
      refine w_tupL (Sq.lst e1) fun t ht => ?_
      walk_at "go"
      exact k _ _ (s1.trans (Same.new ht)) ⟨t, rfl, Sq.tup upd_same⟩


/-! ### the choice -/
theorem eqvAll_mapI : ∀ xs ys : List Int, PyData.eqvAll (xs.map PyData.int) (ys.map PyData.int) = decide (xs = ys)
  | [], [] => by simp only [List.map_nil, PyData.eqvAll, decide_true]
  | [], y :: ys => by simp only [List.map_nil, List.map_cons, PyData.eqvAll]; simp
  | x :: xs, [] => by simp only [List.map_nil, List.map_cons, PyData.eqvAll]; simp
  | x :: xs, y :: ys => by
    simp only [List.map_cons, PyData.eqvAll, eqvAll_mapI xs ys, List.cons.injEq, PyData.eqv]
    by_cases h1 : x = y <;> by_cases h2 : xs = ys <;> simp [h1, h2]
theorem w_eqInts {K : PySem.W.Frag} {H : Hp} {Q : VK} {a a' : Addr} {ns ms : List Int} (h : Sq false K H a (ns.map V.int)) (h' : Sq false K H a' (ms.map V.int)) (q : Q (.bl (decide (ns = ms))) H) : rEqG K (.ref a) (.ref a') H Q :=
  w_eqD (dp_ints h) (dp_ints h') (shaped_intsT ns) (shaped_intsT ms) (by
    have e : PyData.eqv (.tuple (ns.map PyData.int)) (.tuple (ms.map PyData.int)) = decide (ns = ms) := by simp only [PyData.eqv, eqvAll_mapI]
    show Q (.bl (PyData.eqv (.tuple (ns.map PyData.int)) (.tuple (ms.map PyData.int)))) H
    rw [e]; exact q)
theorem natI_inj : ∀ {a b : List Nat}, natI a = natI b ↔ a = b := fun {a b} => by
  unfold natI
  constructor
  · intro h
    have h2 := congrArg (List.map Int.toNat) h
    rw [List.map_map, List.map_map] at h2
    have e : ∀ ls : List Nat, List.map (Int.toNat ∘ fun n : Nat => (n : Int)) ls = ls := fun ls => by
      have : (Int.toNat ∘ fun n : Nat => (n : Int)) = id := by funext n; exact Int.toNat_natCast n
      rw [this, List.map_id]
    rw [e, e] at h2
    exact h2
  · intro h; rw [h]
open Classical in
noncomputable def numOf (ws : List Int) (r : Int) : Nat := if h : ∃ j, j < ws.length ∧ pre ws j ≤ r ∧ r < pre ws (j + 1) then Classical.choose h else 0
theorem numOf_eq {ws : List Int} (hn : ∀ x ∈ ws, (0 : Int) ≤ x) {r : Int} {j : Nat} (hj : j < ws.length) (h1 : pre ws j ≤ r) (h2 : r < pre ws (j + 1)) : numOf ws r = j := by
  unfold numOf
  rw [dif_pos ⟨j, hj, h1, h2⟩]
  have h := Classical.choose_spec (⟨j, hj, h1, h2⟩ : ∃ j, j < ws.length ∧ pre ws j ≤ r ∧ r < pre ws (j + 1))
  exact pre_one hn h.1 hj h.2.1 h.2.2 h1 h2
def vN : Option Nat → V
  | none => .non
  | some l => .int (l : Nat)
noncomputable def choiceD (ru : Option (Int × Steps)) (tape ws : List Int) (text : List Nat) : Option Nat :=
  if (letW ru ws text).sum = 0 then none else if tape.length = 0 then some (bestUpTo (letW ru ws text) (letW ru ws text).length)
  else some (numOf (letW ru ws text) (nth tape ((text.length : Int) % (tape.length : Int)) % (letW ru ws text).sum))
theorem letW_nonneg {ru : Option (Int × Steps)} {ws : List Int} {text : List Nat} (h : ∀ x ∈ ws, (0 : Int) ≤ x) : ∀ x ∈ letW ru ws text, (0 : Int) ≤ x := by
  cases ru with
  | none => exact h
  | some p =>
    obtain ⟨s, st⟩ := p
    intro x hx
    obtain ⟨l, hl, rfl⟩ := List.mem_map.mp hx
    have h1 := h _ (nth_mem (ns := ws) (i := ((l : Nat) : Int)) (by omega) (by have := List.mem_range.mp hl; omega))
    split
    · rw [Int.mul_one]; exact h1
    · rw [Int.mul_zero]; exact Int.le_refl _
theorem choice_lt {ru : Option (Int × Steps)} {tape ws : List Int} {text : List Nat} {l : Nat} (h : ∀ x ∈ ws, (0 : Int) ≤ x) (hc : choiceD ru tape ws text = some l) : l < ws.length := by
  unfold choiceD at hc
  have hl := letW_len ru ws text
  have hn := letW_nonneg (ru := ru) (text := text) h
  by_cases h0 : (letW ru ws text).sum = 0
  · rw [if_pos h0] at hc; cases hc
  · rw [if_neg h0] at hc
    have hpos : 0 < (letW ru ws text).length := by
      rcases Nat.eq_zero_or_pos (letW ru ws text).length with e | e
      · rw [List.length_eq_zero_iff.mp e] at h0
        exact absurd rfl h0
      · exact e
    by_cases h1 : tape.length = 0
    · rw [if_pos h1] at hc
      cases hc
      have := bestUpTo_len hpos (Nat.le_refl _)
      omega
    · rw [if_neg h1] at hc
      cases hc
      unfold numOf
      split
      · rename_i hh
        have := (Classical.choose_spec hh).1
        omega
      · omega

def sp_Ask_choice (K : PySem.W.Frag) (CA CR : Addr) : Sp := fun vs H Q _ => ∃ (a : Addr) (ak : AskD) (v1 v2 : V) (ws : List Int) (text : List Nat) (L : Nat), vs = [.ref a, v1, v2] ∧ IsAsk K CA CR H a ak ∧ AskOk ak L ∧ RVecX K H v1 ws ∧ ws.length = L ∧ (∀ x ∈ ws, 0 ≤ x ∧ x ≤ 1000) ∧ RVecX K H v2 (natI text) ∧ (∀ l ∈ text, l < L) ∧ text.length ≤ 1000 ∧ L ≤ 100 ∧
  ∀ H', Same H H' → Q (vN (choiceD ak.rule ak.tape ws text)) H'


theorem ok_Ask_choice (T : Txt K mg) : FnOk P w K mg base CX0 4 T.a_Ask_choice T.d_Ask_choice ["self", "weights", "text"] (sp_Ask_choice K T.c_Ask T.c_Rule) := by
  refine T.F_Ask_choice.ok sc_Ask_choice (fun vs H Q E h => ?_) (fun cdv A outer s H vs Q E hr h => ?_)
  · obtain ⟨_, _, _, _, _, _, _, rfl, _⟩ := h
    rfl
  · obtain ⟨a, ak, v1, v2, ws, text, L, rfl, hA, ok, r1, hwl, hwb, r2, htx, htl, hL, k⟩ := h
    have cA := T.C_Ask
    have n4 := T.n_Ask_tape
    obtain ⟨dx, ap, as_, at_, vr, h0, _, _, hta, _⟩ := id hA
    unfold AskF at h0
    refine ⟨_, (pss_cons (ps_set (i := 3) sc_Ask_choice.nd rfl (Or.inl rfl) (pe_meth (pv 0) T.C_Ask T.m_Ask_let_weights (ok_Ask_let_weights T) (hr.mono (by decide)) T.b_Ask_let_weights .nil pass0 (pa_cons (pv 1) (pa_cons (pv 2) pa_nil))))
      (pss_cons (ps_if (pt_cmpR (k_eqG (K := K) rfl hr.units) (pe_callB (k_sumS (K := K) rfl rfl) (by rfl) T.z_sum (by decide +kernel) (pa_cons (pv 3) pa_nil)) pe_int (nomark _)) (pss_one (ps_ret pe_non)) pss_nil)
      (pss_cons (ps_if (pt_cmpR (k_eqG (K := K) rfl hr.units) (pe_callB (k_lenS (K := K) rfl) (by rfl) T.z_len (by decide +kernel) (pa_cons (k_fld (K := K) rfl (pv 0) rfl) pa_nil)) pe_int (nomark _)) (pss_one (ps_ret (pe_call (ok_greatest T) (hr.mono (by decide)) (by rfl) T.g_greatest T.F_greatest.kp T.b_greatest .nil pass0 (pa_cons (pv 3) pa_nil)))) pss_nil)
      (pss_one (ps_ret (pe_call (ok_by_number T) (hr.mono (by decide)) (by rfl) T.g_by_number T.F_by_number.kp T.b_by_number .nil pass0 (pa_cons (pv 3) (pa_cons (pe_ix (k_ix (K := K) rfl) (k_fld (K := K) rfl (pv 0) rfl) (pe_op op_mod (pe_callB (k_lenS (K := K) rfl) (by rfl) T.z_len (by decide +kernel) (pa_cons (pv 2) pa_nil)) (pe_callB (k_lenS (K := K) rfl) (by rfl) T.z_len (by decide +kernel) (pa_cons (k_fld (K := K) rfl (pv 0) rfl) pa_nil))) (fun _ _ => rfl)) pa_nil)))))))), ?_⟩
    refine go_start (σ' := [some (.ref a), some v1, some v2, none]) rfl ?_
    try dsimp only [cxOf, Cx.nox, Cx.wish]
    walk_at "go"
    refine ⟨a, ak, v1, v2, ws, text, L, rfl, hA, ok, r1, hwl, hwb, r2, htx, htl, hL, fun v' H1 s1 ⟨p, e, hp⟩ => ?_⟩
    subst e
    have hlen := letW_len ak.rule ws text
    have hnn := letW_nonneg (ru := ak.rule) (text := text) (fun x hx => (hwb x hx).1)
    unfold choiceD at k
    generalize letW ak.rule ws text = lw at hp hlen hnn k ⊢
    have h01 := s1 _ _ h0
    have hta1 := s1.sq hta
    obtain ⟨b2, a2, rfl, hx2⟩ := r2
    have hx2 := s1.sq hx2
    walk_at "go"
    refine w_iteD (fun hz => ?_) (fun hz => ?_)
    · walk_at "go"
      rw [if_pos hz] at k
      exact k _ s1
    rw [if_neg hz] at k
    have hsp : 0 < lw.sum := by
      have := sum_nonneg hnn
      omega
    have hlp : 0 < lw.length := by
      cases lw with
      | nil => exact absurd rfl hz
      | cons _ _ => exact Nat.zero_lt_succ _
    walk_at "go"
    refine w_iteD (fun ht => ?_) (fun ht => ?_)
    · rw [if_pos (by omega)] at k
      walk_at "go"
      refine ⟨false, p, lw, rfl, hp, hlp, fun H2 s2 => ?_⟩
      walk_at "go"
      exact k _ (s1.trans s2)
    · rw [if_neg (by omega)] at k
      have hm0 : 0 ≤ ((natI text).length : Int) % (ak.tape.length : Int) := Int.emod_nonneg _ ht
      have hm1 : ((natI text).length : Int) % (ak.tape.length : Int) < ak.tape.length := Int.emod_lt_of_pos _ (by omega)
      walk_at "go"
      refine ⟨false, p, lw, _, rfl, hp, hnn, hsp, fun j H2 hj h1 h2 s2 => ?_⟩
      rw [natI_len] at h1 h2
      rw [numOf_eq hnn hj h1 h2] at k
      walk_at "go"
      exact k _ (s1.trans s2)

/-! ### stops -/
theorem natI_dropV (ls : List Nat) (n : Nat) : ((natI ls).map V.int).drop n = (natI (ls.drop n)).map V.int := by
  unfold natI
  rw [List.map_drop, List.map_drop]
theorem natI_takeV (ls : List Nat) (n : Nat) : ((natI ls).map V.int).take n = (natI (ls.take n)).map V.int := by
  unfold natI
  rw [List.map_take, List.map_take]
theorem natI_snoc (ls : List Nat) (l : Nat) : (natI ls).map V.int ++ [V.int (l : Nat)] = (natI (ls ++ [l])).map V.int := by
  unfold natI
  rw [List.map_append, List.map_append]
  rfl
theorem natI_catV (a b : List Nat) : (natI a).map V.int ++ (natI b).map V.int = (natI (a ++ b)).map V.int := by
  unfold natI
  rw [List.map_append, List.map_append]
def stopLen (text : List Nat) (ss : List (List Nat)) : Nat := ss.foldl (fun m s => if m < s.length ∧ s.length ≤ text.length ∧ text.drop (text.length - s.length) = s then s.length else m) 0
theorem stopLen_take (text : List Nat) (ss : List (List Nat)) {i : Nat} {s : List Nat} (hi : ss[i]? = some s) : stopLen text (ss.take (i + 1)) = if stopLen text (ss.take i) < s.length ∧ s.length ≤ text.length ∧ text.drop (text.length - s.length) = s then s.length else stopLen text (ss.take i) := by
  unfold stopLen
  rw [List.take_add_one, hi, List.foldl_append]
  rfl
theorem stopLen_le (text : List Nat) : ∀ (ss : List (List Nat)), stopLen text ss ≤ text.length := by
  intro ss
  have gen : ∀ (ss : List (List Nat)) (m : Nat), m ≤ text.length → ss.foldl (fun m s => if m < s.length ∧ s.length ≤ text.length ∧ text.drop (text.length - s.length) = s then s.length else m) m ≤ text.length := by
    intro ss
    induction ss with
    | nil => exact fun m h => h
    | cons s r ih =>
      intro m h
      refine ih _ ?_
      show (if _ then _ else _) ≤ _
      split
      · omega
      · exact h
  exact gen ss 0 (Nat.zero_le _)
theorem stopsV_at {ss : List (List Nat)} {i : Nat} {s : List Nat} (h : ss[i]? = some s) : (stopsV ss)[i]? = some ((natI s).map V.int) := by
  unfold stopsV
  rw [List.getElem?_map, h]
  rfl
theorem stopsV_len (ss : List (List Nat)) : (stopsV ss).length = ss.length := by unfold stopsV; rw [List.length_map]

def sp_stop_length (K : PySem.W.Frag) : Sp := fun vs H Q _ => ∃ (v : V) (tp : Addr) (ss : List (List Nat)) (text : List Nat), vs = [v, .ref tp] ∧ RRows false false K H v (stopsV ss) ∧ ss.length ≤ 100 ∧ Sq false K H tp ((natI text).map V.int) ∧ text.length ≤ 1000 ∧ ∀ H', Same H H' → Q (.int (stopLen text ss : Nat)) H'
theorem ok_stop_length (T : Txt K mg) : FnOk P w K mg base CX0 1 T.a_stop_length T.d_stop_length ["stops", "text"] (sp_stop_length K) := by
  refine T.F_stop_length.ok sc_stop_length (fun vs H Q E h => ?_) (fun cdv A outer s H vs Q E hr h => ?_)
  · obtain ⟨_, _, _, _, rfl, _⟩ := h
    rfl
  · obtain ⟨v, tp, ss, text, rfl, hS, hsl, hT, htl, k⟩ := h
    obtain ⟨sp, xs, rfl, hx, hxl, hxr⟩ := id hS
    rw [stopsV_len] at hxl
    refine ⟨_, (pss_cons (ps_set (i := 2) sc_stop_length.nd rfl (Or.inl rfl) pe_int)
      (pss_cons (ps_for PassesOwn.never rfl (k_seqS (K := K) rfl (pv 0)) (pg_name (i := 3) sc_stop_length.nd rfl (Or.inl rfl))
      (pss_one (ps_if (PW.pt (pw_and (pt_chain op_lt op_le (pv 2) (pe_callB (k_lenS (K := K) rfl) (by rfl) T.z_len (by decide +kernel) (pa_cons (pv 3) pa_nil)) (pe_callB (k_lenS (K := K) rfl) (by rfl) T.z_len (by decide +kernel) (pa_cons (pv 1) pa_nil))) (pw_and1 (pt_cmpR (k_eqG (K := K) rfl hr.units) (pe_slice (k_slG (K := K) rfl) (pv 1) (po_some (pe_op op_sub (pe_callB (k_lenS (K := K) rfl) (by rfl) T.z_len (by decide +kernel) (pa_cons (pv 1) pa_nil)) (pe_callB (k_lenS (K := K) rfl) (by rfl) T.z_len (by decide +kernel) (pa_cons (pv 3) pa_nil)))) po_none) (pv 3) (nomark _))))) (pss_one (ps_set (i := 2) sc_stop_length.nd rfl (Or.inl rfl) (pe_callB (k_lenS (K := K) rfl) (by rfl) T.z_len (by decide +kernel) (pa_cons (pv 3) pa_nil)))) pss_nil)))
      (pss_one (ps_ret (pv 2))))), ?_⟩
    refine go_start (σ' := [some (.ref sp), some (.ref tp), none, none]) rfl ?_
    try dsimp only [cxOf, Cx.nox, Cx.wish]
    walk_at "go"
    refine l_seq (b := false) xs (fun i σ H' => ∃ y3, σ = [some (.ref sp), some (.ref tp), some (.int (stopLen text (ss.take i) : Nat)), y3] ∧ Same H H') hx ⟨none, rfl, Same.refl _⟩ (fun i σ H' _ ⟨_, _, s1⟩ => s1.sq hx) ?_ ?_
    · rintro i x σ H' hi hxi ⟨y3, rfl, s1⟩
      have hsi : ss[i]? = some (ss[i]'(by omega)) := List.getElem?_eq_getElem (by omega)
      generalize ss[i]'(by omega) = s at hsi
      obtain ⟨p, rfl, hp⟩ := hxr i x _ hxi (stopsV_at hsi)
      have hp1 := s1.sq hp
      have hT1 := s1.sq hT
      have e := stopLen_take text ss hsi
      generalize stopLen text (ss.take i) = m at e ⊢
      walk_at "go"
      have fin : ∀ (H2 : Hp) (y3' : Option V) (m' : Nat), Same H H2 → (if m < s.length ∧ s.length ≤ text.length ∧ text.drop (text.length - s.length) = s then s.length else m) = m' → ∃ y3, [some (V.ref sp), some (.ref tp), some (.int (m' : Nat)), y3'] = [some (V.ref sp), some (.ref tp), some (.int (stopLen text (ss.take (i + 1)) : Nat)), y3] ∧ Same H H2 := fun H2 y3' m' s2 e2 => ⟨_, by rw [e, e2], s2⟩
      have hsl2 := natI_len s
      have htl2 := natI_len text
      refine w_iteD (fun h1 => ?_) (fun h1 => ?_)
      · walk_at "go"
        refine w_iteD (fun h2 => ?_) (fun h2 => ?_)
        · walk_at "go"
          refine w_slAny (ys := (natI (text.drop (text.length - s.length))).map V.int) hT1 (by
            rw [show ((natI text).length : Int) - ((natI s).length : Int) = ((text.length - s.length : Nat) : Int) by omega, cutV_from (by rw [List.length_map]; omega), natI_dropV]) fun p' H2 s2 hp' => ?_
          have hp2 := s2.sq hp1
          walk_at "go"
          refine w_eqInts hp' hp2 ?_
          walk_at "go"
          refine w_iteD (fun h3 => ?_) (fun h3 => ?_)
          · walk_at "go"
            rw [hsl2]
            exact fin _ _ _ (s1.trans s2) (if_pos ⟨by omega, by omega, natI_inj.mp h3⟩)
          · walk_at "go"
            exact fin _ _ _ (s1.trans s2) (if_neg fun h => h3 (natI_inj.mpr h.2.2))
        · walk_at "go"
          exact fin _ _ _ s1 (if_neg fun h => h2 (by omega))
      · walk_at "go"
        exact fin _ _ _ s1 (if_neg fun h => h1 (by omega))
    · rintro σ H' ⟨y3, rfl, s1⟩
      rw [hxl, List.take_length]
      walk_at "go"
      exact k _ s1

/-! ### what is next -/
theorem w_eqN {K : PySem.W.Frag} {H : Hp} {Q : VK} {l : Nat} {en : Option Nat} (q : Q (.bl (decide (en = some l))) H) : rEqG K (.int (l : Nat)) (vN en) H Q := by
  cases en with
  | none =>
    refine w_eqS rfl ?_
    have e : decide (V.int (l : Nat) = V.non) = decide ((none : Option Nat) = some l) := by
      rw [decide_eq_decide]
      exact ⟨fun h => (nomatch h), fun h => (nomatch h)⟩
    show Q (.bl (decide (V.int (l : Nat) = V.non))) H
    rw [e]
    exact q
  | some m =>
    refine w_eqI ?_
    have e : decide (((l : Nat) : Int) = ((m : Nat) : Int)) = decide (some m = some l) := by
      rw [decide_eq_decide]
      exact ⟨fun h => by rw [show m = l by omega], fun h => by cases h; rfl⟩
    rw [e]
    exact q
noncomputable def nextD (en : Option Nat) (ak : AskD) (ws : List Int) (text : List Nat) : List Nat × Option Str := match choiceD ak.rule ak.tape ws text with
  | none => (text, some "stuck")
  | some l => if en = some l then (text, some "end") else if 0 < stopLen (text ++ [l]) ak.stops then ((text ++ [l]).take ((text ++ [l]).length - stopLen (text ++ [l]) ak.stops), some "stop")
    else (text ++ [l], if (text ++ [l]).length = ak.most then some "most" else none)
def wV : Option Str → V
  | none => .non
  | some s => .str s
def RDue (K : PySem.W.Frag) : Rep (List Nat × Option Str) := fun H v r => ∃ p pt, v = .ref p ∧ Sq false K H p [.ref pt, wV r.2] ∧ Sq false K H pt ((natI r.1).map V.int)
theorem RDue.mono {K : PySem.W.Frag} : RMono (RDue K) := fun _ _ _ _ s ⟨p, pt, e, h1, h2⟩ => ⟨p, pt, e, s.sq h1, s.sq h2⟩

def sp_next_text (K : PySem.W.Frag) (C CA CR : Addr) : Sp := fun vs H Q _ => ∃ (p a tp wp : Addr) (nd : NetD) (en : Option Nat) (ak : AskD) (ws : List Int) (text : List Nat) (L : Nat), vs = [.ref p, .ref a, .ref tp, .ref wp] ∧ IsNet K C H p nd (vN en) ∧ IsAsk K CA CR H a ak ∧ AskOk ak L ∧ Sq false K H wp (ws.map V.int) ∧ ws.length = L ∧ (∀ x ∈ ws, 0 ≤ x ∧ x ≤ 1000) ∧ Sq false K H tp ((natI text).map V.int) ∧ (∀ l ∈ text, l < L) ∧ text.length ≤ 100 ∧ L ≤ 100 ∧
  ∀ v' H', Same H H' → RDue K H' v' (nextD en ak ws text) → Q v' H'
theorem ok_next_text (T : Txt K mg) : FnOk P w K mg base CX0 5 T.a_next_text T.d_next_text ["net", "ask", "text", "weights"] (sp_next_text K T.c_Net T.c_Ask T.c_Rule) := by
  refine T.F_next_text.ok sc_next_text (fun vs H Q E h => ?_) (fun cdv A outer s H vs Q E hr h => ?_)
  · obtain ⟨_, _, _, _, _, _, _, _, _, _, rfl, _⟩ := h
    rfl
  · obtain ⟨p, a, tp, wp, nd, en, ak, ws, text, L, rfl, hN, hA, ok, hw, hwl, hwb, hT, htx, htl, hL, k⟩ := h
    have cA := T.C_Ask
    have cN := T.C_Net
    have n1 := T.n_Net_end
    have n2 := T.n_Ask_stops
    have n3 := T.n_Ask_most
    obtain ⟨dx, ap, as_, at_, vr, h0, _, hst, _, _⟩ := id hA
    unfold AskF at h0
    refine ⟨_, (pss_cons (ps_set (i := 4) sc_next_text.nd rfl (Or.inl rfl) (pe_meth (pv 1) T.C_Ask T.m_Ask_choice (ok_Ask_choice T) (hr.mono (by decide)) T.b_Ask_choice .nil pass0 (pa_cons (pv 3) (pa_cons (pv 2) pa_nil))))
      (pss_cons (ps_if (pt_cmpR op_isNN (pv 4) pe_non (nomark _)) (pss_one (ps_ret (pe_tup (pa_cons (pv 2) (pa_cons pe_str pa_nil))))) pss_nil)
      (pss_cons (ps_if (pt_cmpR (k_eqG (K := K) rfl hr.units) (pv 4) (k_fld (K := K) rfl (pv 0) rfl) (nomark _)) (pss_one (ps_ret (pe_tup (pa_cons (pv 2) (pa_cons pe_str pa_nil))))) pss_nil)
      (pss_cons (ps_set (i := 2) sc_next_text.nd rfl (Or.inl rfl) (pe_op op_catA (pv 2) (pe_tup (pa_cons (pv 4) pa_nil))))
      (pss_cons (ps_set (i := 5) sc_next_text.nd rfl (Or.inl rfl) (pe_call (ok_stop_length T) (hr.mono (by decide)) (by rfl) T.g_stop_length T.F_stop_length.kp T.b_stop_length .nil pass0 (pa_cons (k_fld (K := K) rfl (pv 1) rfl) (pa_cons (pv 2) pa_nil))))
      (pss_cons (ps_if (pt_cmpR op_gt (pv 5) pe_int (nomark _)) (pss_one (ps_ret (pe_tup (pa_cons (pe_slice (k_slG (K := K) rfl) (pv 2) po_none (po_some (pe_op op_sub (pe_callB (k_lenS (K := K) rfl) (by rfl) T.z_len (by decide +kernel) (pa_cons (pv 2) pa_nil)) (pv 5)))) (pa_cons pe_str pa_nil))))) pss_nil)
      (pss_one (ps_ret (pe_tup (pa_cons (pv 2) (pa_cons (pe_ifExp (pt_cmpR (k_eqG (K := K) rfl hr.units) (pe_callB (k_lenS (K := K) rfl) (by rfl) T.z_len (by decide +kernel) (pa_cons (pv 2) pa_nil)) (k_fld (K := K) rfl (pv 1) rfl) (nomark _)) pe_str pe_non) pa_nil))))))))))), ?_⟩
    refine go_start (σ' := [some (.ref p), some (.ref a), some (.ref tp), some (.ref wp), none, none]) rfl ?_
    try dsimp only [cxOf, Cx.nox, Cx.wish]
    walk_at "go"
    refine ⟨a, ak, _, _, ws, text, L, rfl, hA, ok, ⟨false, wp, rfl, hw⟩, hwl, hwb, ⟨false, tp, rfl, hT⟩, htx, by omega, hL, fun H1 s1 => ?_⟩
    have hlt := fun l => choice_lt (ru := ak.rule) (tape := ak.tape) (ws := ws) (text := text) (l := l) (fun x hx => (hwb x hx).1)
    have enx : nextD en ak ws text = match choiceD ak.rule ak.tape ws text with
      | none => (text, some "stuck")
      | some l => if en = some l then (text, some "end") else if 0 < stopLen (text ++ [l]) ak.stops then ((text ++ [l]).take ((text ++ [l]).length - stopLen (text ++ [l]) ak.stops), some "stop")
        else (text ++ [l], if (text ++ [l]).length = ak.most then some "most" else none) := rfl
    rw [enx] at k
    generalize choiceD ak.rule ak.tape ws text = o at k hlt ⊢
    have hT1 := s1.sq hT
    have h01 := s1 _ _ h0
    have hst1 := RRows.mono _ _ _ _ s1 hst
    have hN1 := hN.mono s1
    obtain ⟨dxn, w1, w2, w3, w4, hn0, _⟩ := id hN1
    unfold netF at hn0
    cases o with
    | none =>
      dsimp only [vN] at k ⊢
      walk_at "go"
      refine ⟨by show 2 ≤ sizeLine; decide, fun q hq => ?_⟩
      have s2 := Same.new (o := .tup [.ref tp, .str "stuck"]) hq
      exact k _ _ (s1.trans s2) ⟨q, tp, rfl, Sq.tup upd_same, s2.sq hT1⟩
    | some l =>
      dsimp only [vN] at k ⊢
      have hl := hlt l rfl
      walk_at "go"
      refine w_eqN ?_
      walk_at "go"
      refine w_iteD (fun he => ?_) (fun he => ?_)
      · walk_at "go"
        refine ⟨by show 2 ≤ sizeLine; decide, fun q hq => ?_⟩
        have s2 := Same.new (o := .tup [.ref tp, .str "end"]) hq
        rw [if_pos he] at k
        exact k _ _ (s1.trans s2) ⟨q, tp, rfl, Sq.tup upd_same, s2.sq hT1⟩
      rw [if_neg he] at k
      clear hn0
      walk_at "go"
      refine ⟨by show 1 ≤ sizeLine; decide, fun q hq => ?_⟩
      have s2 := Same.new (o := .tup [.int (l : Nat)]) hq
      refine w_catA (s2.sq hT1) (Sq.tup (xs := [.int (l : Nat)]) upd_same) (by rw [List.length_map, natI_len]; show text.length + 1 ≤ _; omega) fun t3 H3 s3 ht3 => ?_
      rw [natI_snoc] at ht3
      have s13 := s2.trans s3
      have h03 := s13 _ _ h01
      have hst3 := RRows.mono _ _ _ _ s13 hst1
      have htl2 : (text ++ [l]).length = text.length + 1 := by rw [List.length_append]; rfl
      generalize text ++ [l] = t2 at ht3 htl2 k ⊢
      have hnl := natI_len t2
      walk_at "go"
      refine ⟨.ref as_, t3, ak.stops, t2, rfl, hst3, by have := ok.slen; omega, ht3, by omega, fun H4 s4 => ?_⟩
      have h04 := s4 _ _ h03
      have ht4 := s4.sq ht3
      have hsl := stopLen_le t2 ak.stops
      generalize stopLen t2 ak.stops = sl at hsl k ⊢
      have s14 := (s1.trans s13).trans s4
      walk_at "go"
      refine w_iteD (fun h1 => ?_) (fun h1 => ?_)
      · rw [if_pos (by omega)] at k
        walk_at "go"
        refine w_slAny (ys := (natI (t2.take (t2.length - sl))).map V.int) ht4 (by
          rw [cutV_intTo (by omega) (by rw [List.length_map]; omega), show (((natI t2).length : Int) - ((sl : Nat) : Int)).toNat = t2.length - sl by omega, natI_takeV]) fun p' H5 s5 hp' => ?_
        walk_at "go"
        refine ⟨by show 2 ≤ sizeLine; decide, fun q6 hq6 => ?_⟩
        have s6 := Same.new (o := .tup [.ref p', .str "stop"]) hq6
        exact k _ _ ((s14.trans s5).trans s6) ⟨q6, p', rfl, Sq.tup upd_same, s6.sq hp'⟩
      · rw [if_neg (by omega)] at k
        walk_at "go"
        refine w_iteD (fun h2 => ?_) (fun h2 => ?_)
        · rw [if_pos (by omega)] at k
          walk_at "go"
          refine ⟨by show 2 ≤ sizeLine; decide, fun q6 hq6 => ?_⟩
          have s6 := Same.new (o := .tup [.ref t3, .str "most"]) hq6
          exact k _ _ (s14.trans s6) ⟨q6, t3, rfl, Sq.tup upd_same, s6.sq ht4⟩
        · rw [if_neg (by omega)] at k
          walk_at "go"
          refine ⟨by show 2 ≤ sizeLine; decide, fun q6 hq6 => ?_⟩
          have s6 := Same.new (o := .tup [.ref t3, .non]) hq6
          exact k _ _ (s14.trans s6) ⟨q6, t3, rfl, Sq.tup upd_same, s6.sq ht4⟩


/-! ### letters that may be none; the letters of an ask -/
def badV (L : Nat) : V → Bool
  | .int i => !decide (0 ≤ i ∧ i < (L : Int))
  | _ => true
theorem badV_good {L : Nat} {x : V} (h : badV L x = false) : ∃ l : Nat, x = .int ((l : Nat) : Int) ∧ l < L := by
  cases x with
  | int i =>
    have h1 : decide (0 ≤ i ∧ i < (L : Int)) = true := by
      cases e : decide (0 ≤ i ∧ i < (L : Int)) with
      | true => rfl
      | false =>
        have h2 : (!decide (0 ≤ i ∧ i < (L : Int))) = false := h
        rw [e] at h2; cases h2
    have h2 := of_decide_eq_true h1
    exact ⟨i.toNat, by rw [Int.toNat_of_nonneg h2.1], by omega⟩
  | _ => cases h
theorem badV_of {L l : Nat} (h : l < L) : badV L (.int ((l : Nat) : Int)) = false := by
  show (!decide (0 ≤ ((l : Nat) : Int) ∧ ((l : Nat) : Int) < (L : Int))) = false
  rw [decide_eq_true ⟨by omega, by omega⟩]; rfl
/-- a whole number, or a value of another kind -/
def LetV (K : PySem.W.Frag) (H : Hp) (x : V) : Prop := (∃ i, x = .int i) ∨ ((∀ i, x ≠ .int i) ∧ ∃ tn, TyX K H x (.type tn) ∧ (tn = "bool" ∨ tn = "NoneType" ∨ tn = "str" ∨ tn = "tuple" ∨ tn = "list"))
theorem LetV.bad {K : PySem.W.Frag} {H : Hp} {x : V} {L : Nat} (h : LetV K H x) : (∃ i, x = .int i ∧ (!badV L x) = decide (0 ≤ i ∧ i ≤ (L : Int) - 1)) ∨ ((!badV L x) = false ∧ ∃ tn, TyX K H x (.type tn) ∧ (tn = "bool" ∨ tn = "NoneType" ∨ tn = "str" ∨ tn = "tuple" ∨ tn = "list")) := by
  rcases h with ⟨i, rfl⟩ | ⟨hn, h⟩
  · refine .inl ⟨i, rfl, ?_⟩
    show (!(!decide (0 ≤ i ∧ i < (L : Int)))) = _
    rw [Bool.not_not, decide_eq_decide]
    omega
  · refine .inr ⟨?_, h⟩
    cases x with
    | int i => exact absurd rfl (hn i)
    | _ => rfl
def rowsOf (av : AskV) (bg : List V) : List (List V) := av.prompt :: (av.stops ++ [bg])
def FirstBad (L : Nat) (rows : List (List V)) (x : V) : Prop := badV L x = true ∧ ∃ (i j : Nat) (row : List V), rows[i]? = some row ∧ row[j]? = some x ∧ (∀ i' r, i' < i → rows[i']? = some r → ∀ y ∈ r, badV L y = false) ∧ (∀ j' y, j' < j → row[j']? = some y → badV L y = false)
theorem FirstBad.uniq {L : Nat} {rows : List (List V)} {x y : V} (h : FirstBad L rows x) (g : FirstBad L rows y) : x = y := by
  obtain ⟨bx, i, j, r, h1, h2, h3, h4⟩ := h
  obtain ⟨by', i', j', r', g1, g2, g3, g4⟩ := g
  rcases Nat.lt_trichotomy i i' with hi | rfl | hi
  · have := g3 i r hi h1 x (List.mem_of_getElem? h2)
    rw [bx] at this; cases this
  · rw [h1] at g1
    cases g1
    rcases Nat.lt_trichotomy j j' with hj | rfl | hj
    · have := g4 j x hj h2
      rw [bx] at this; cases this
    · rw [h2] at g2
      cases g2; rfl
    · have := h4 j' y hj g2
      rw [by'] at this; cases this
  · have := h3 i' r' hi g1 y (List.mem_of_getElem? g2)
    rw [by'] at this; cases this
theorem FirstBad.not {L : Nat} {rows : List (List V)} {x : V} (h : FirstBad L rows x) (g : ∀ r ∈ rows, ∀ y ∈ r, badV L y = false) : False := by
  obtain ⟨bx, i, j, r, h1, h2, _, _⟩ := h
  have := g r (List.mem_of_getElem? h1) x (List.mem_of_getElem? h2)
  rw [bx] at this; cases this
def spV_Net_is_letter (K : PySem.W.Frag) (C : Addr) : Sp := fun vs H Q _ => ∃ (p : Addr) (nd : NetD) (e x : V), vs = [.ref p, x] ∧ IsNet K C H p nd e ∧ LetV K H x ∧ Q (.bl (!badV nd.emb.length x)) H
theorem okV_Net_is_letter (T : Txt K mg) : FnOk P w K mg base CX0 2 T.a_Net_is_letter T.d_Net_is_letter ["self", "value"] (spV_Net_is_letter K T.c_Net) := by
  refine T.F_Net_is_letter.ok sc_Net_is_letter (fun vs H Q E h => ?_) (fun cdv A outer s H vs Q E hr h => ?_)
  · obtain ⟨_, _, _, _, rfl, _⟩ := h
    rfl
  · obtain ⟨p, nd, e, x, rfl, hN, hx, k⟩ := h
    have cN := T.C_Net
    obtain ⟨dx, v1, v2, v3, v4, h0, h1, _⟩ := id hN
    unfold netF at h0
    obtain ⟨a1, xs1, rfl, hq1, hl1, _⟩ := id h1
    have n1 := T.n_Net_embed
    refine ⟨_, (pss_one (ps_ret (pe_call (ok_is_between T) (hr.mono (by decide)) (by rfl) T.g_is_between T.F_is_between.kp T.b_is_between .nil pass0 (pa_cons (pv 1) (pa_cons pe_int (pa_cons (pe_op op_sub (pe_callB (k_lenS (K := K) rfl) (by rfl) T.z_len (by decide +kernel) (pa_cons (k_fld (K := K) rfl (pv 0) rfl) pa_nil)) pe_int) pa_nil)))))), ?_⟩
    refine go_start (σ' := [some (.ref p), some x]) rfl ?_
    try dsimp only [cxOf, Cx.nox, Cx.wish]
    walk_at "GO"
    exact ⟨x, 0, (xs1.length : Int) - 1, !badV nd.emb.length x, rfl, by rw [hl1]; exact hx.bad, k⟩
def sp_check_lettersV (K : PySem.W.Frag) (C CA CR CL : Addr) : Sp := fun vs H Q E => ∃ (p a bp : Addr) (nd : NetD) (e : V) (av : AskV) (b : Bool) (bg : List V), vs = [.ref p, .ref a, .ref bp] ∧ IsNet K C H p nd e ∧ IsAskV K CA CR H a av ∧ Sq b K H bp bg ∧ av.stops.length ≤ 100 ∧ (∀ r ∈ rowsOf av bg, ∀ y ∈ r, ∀ H', Same H H' → LetV K H' y) ∧
  ((∀ r ∈ rowsOf av bg, ∀ y ∈ r, badV nd.emb.length y = false) → ∀ H', Same H H' → Q .non H') ∧ (∀ x, FirstBad nd.emb.length (rowsOf av bg) x → RaiseQ E H CL "letter" x)
theorem okN_check_letters (T : Txt K mg) : FnOk P w K mg base (L2N.CX P w) 3 T.a_check_letters T.d_check_letters ["net", "ask", "begun"] (sp_check_lettersV K T.c_Net T.c_Ask T.c_Rule T.c_InvalidLetter) := by
  refine T.F_check_letters.okN sc_check_letters (fun vs H Q E h => ?_) (fun cdv A outer s H vs Q E hr h => ?_)
  · obtain ⟨_, _, _, _, _, _, _, _, rfl, _⟩ := h
    rfl
  · obtain ⟨p, a, bp, nd, e, av, b, bg, rfl, hN, hA, hB, hsl, hany, k1, k2⟩ := h
    have cA := T.C_Ask
    have cN := T.C_Net
    have n1 := T.n_Ask_prompt
    have n2 := T.n_Ask_stops
    obtain ⟨dx, ap, as_, at_, vr, h0, hap, hst, _, _⟩ := id hA
    unfold AskF at h0
    refine ⟨_, (pss_one (ps_for (passes_of rfl) rfl (k_seqS (K := K) rfl (pe_op op_catA (pe_op op_catA (pe_tup (pa_cons (k_fld (K := K) rfl (pv 1) rfl) pa_nil)) (k_fld (K := K) rfl (pv 1) rfl)) (pe_tup (pa_cons (pe_callTy (k_tupS (K := K) rfl) (by rfl) T.z_tuple (by decide +kernel) (pa_cons (pv 2) pa_nil)) pa_nil)))) (pg_name (i := 3) sc_check_letters.nd rfl (Or.inl rfl))
      (pss_one (ps_for (passes_of rfl) rfl (k_seqS (K := K) rfl (pv 3)) (pg_name (i := 4) sc_check_letters.nd rfl (Or.inl rfl))
      (pss_one (ps_if (pt_not (k_tru (K := K) rfl (pe_meth (pv 0) T.C_Net T.m_Net_is_letter (okV_Net_is_letter T) (hr.mono (by decide)) T.b_Net_is_letter .nil pass0 (pa_cons (pv 4) pa_nil)) (by intro _; rfl))) (pss_one (L2N.ps_raise rfl (L2N.takes_of rfl rfl rfl rfl) (pmk_oexN T.ox_InvalidLetter T.ic_InvalidLetter T.ti_InvalidLetter (ok_InvalidLetter___init__ T) (hr.mono (by decide)) T.b_InvalidLetter___init__ pass0 rfl T.gc_InvalidLetter (pa_cons (pv 4) pa_nil)))) pss_nil)))))), ?_⟩
    refine go_start (σ' := [some (.ref p), some (.ref a), some (.ref bp), none, none]) rfl ?_
    try dsimp only [cxOf, Cx.nox, Cx.wish]
    walk_at "GO"
    rename_i q1 H1 hq1 s1 e1
    have h01 := s1 _ _ h0
    obtain ⟨_, xs, ea, hx, hxl, hxr⟩ := id (RRows.mono _ _ _ _ s1 hst)
    cases ea
    refine w_catA (Sq.tup e1) hx (by show 1 + xs.length ≤ _; omega) fun q2 H2 s2 hq2 => ?_
    walk_at "GO"
    refine w_tupAny ((s1.trans s2).sq hB) fun q3 H3 s3 hq3 => ?_
    walk_at "GO"
    rename_i q4 H4 hq4 s4 e4
    refine w_catA ((s3.trans s4).sq hq2) (Sq.tup e4) (by rw [List.length_append]; show 1 + xs.length + 1 ≤ _; omega) fun q5 H5 s5 hq5 => ?_
    have s05 := (((s1.trans s2).trans s3).trans s4).trans s5
    have hrow : ∀ (i : Nat) y, ([V.ref ap] ++ xs ++ [.ref q3])[i]? = some y → ∃ (r : Addr) (ls : List V), y = .ref r ∧ (rowsOf av bg)[i]? = some ls ∧ Sq false K H5 r ls := fun i y hy => by
      match i, hy with
      | 0, hy => cases hy; exact ⟨ap, av.prompt, rfl, rfl, s05.sq hap⟩
      | i + 1, hy =>
        have hy : (xs ++ [V.ref q3])[i]? = some y := hy
        by_cases hlt : i < xs.length
        · rw [List.getElem?_append_left hlt] at hy
          have hsj : av.stops[i]? = some (av.stops[i]'(by omega)) := List.getElem?_eq_getElem (by omega)
          obtain ⟨r, er, hr'⟩ := hxr i y _ hy hsj
          exact ⟨r, _, er, by show (av.stops ++ [bg])[i]? = _; rw [List.getElem?_append_left (by omega)]; exact hsj, (((s2.trans s3).trans s4).trans s5).sq hr'⟩
        · have hl := (List.getElem?_eq_some_iff.mp hy).1
          rw [List.length_append] at hl
          obtain rfl : i = xs.length := by
            have : i < xs.length + 1 := hl
            omega
          rw [List.getElem?_append_right (Nat.le_refl _), Nat.sub_self] at hy
          cases hy
          exact ⟨q3, bg, rfl, by show (av.stops ++ [bg])[xs.length]? = _; rw [hxl, List.getElem?_append_right (Nat.le_refl _), Nat.sub_self]; rfl, (s4.trans s5).sq hq3⟩
    have hrl : ([V.ref ap] ++ xs ++ [V.ref q3]).length = (rowsOf av bg).length := by
      unfold rowsOf
      simp only [List.length_append, List.length_cons, List.length_nil]
      omega
    walk_at "GO"
    refine l_seq (b := false) ([V.ref ap] ++ xs ++ [.ref q3]) (fun i σ H' => ∃ y3 y4, σ = [some (.ref p), some (.ref a), some (.ref bp), y3, y4] ∧ Same H5 H' ∧ ∀ i' r, i' < i → (rowsOf av bg)[i']? = some r → ∀ y ∈ r, badV nd.emb.length y = false) hq5 ⟨none, none, rfl, Same.refl _, fun i' r h => absurd h (Nat.not_lt_zero _)⟩ (fun i σ H' _ ⟨_, _, _, s6, _⟩ => s6.sq hq5) ?_ ?_
    · rintro i x σ H6 hi hxi ⟨y3, y4, rfl, s6, hgood⟩
      obtain ⟨r, ls, rfl, hls, hr'⟩ := hrow i x hxi
      have hr6 := s6.sq hr'
      walk_at "GO"
      refine l_seq (b := false) ls (fun j σ H' => ∃ y4, σ = [some (.ref p), some (.ref a), some (.ref bp), some (.ref r), y4] ∧ Same H6 H' ∧ ∀ j' y, j' < j → ls[j']? = some y → badV nd.emb.length y = false) hr6 ⟨_, rfl, Same.refl _, fun j' y h => absurd h (Nat.not_lt_zero _)⟩ (fun j σ H' _ ⟨_, _, s7, _⟩ => s7.sq hr6) ?_ ?_
      · rintro j y σ H7 hj hyj ⟨y4, rfl, s7, hg2⟩
        have s07 := (s05.trans s6).trans s7
        have hN7 := hN.mono s07
        have ho7 := hany ls (List.mem_of_getElem? hls) y (List.mem_of_getElem? hyj) _ s07
        obtain ⟨dxn, w1, w2, w3, w4, hn0, _⟩ := id hN7
        unfold netF at hn0
        walk_at "GO"
        refine ⟨p, nd, e, y, rfl, hN7, ho7, ?_⟩
        cases hb : badV nd.emb.length y with
        | true =>
          walk_at "GO"
          exact w_raiseV T.ox_InvalidLetter T.nf_InvalidLetter rfl fun d H' hd s8 e8 => k2 y ⟨hb, i, j, ls, hls, hyj, hgood, hg2⟩ d H' (none_back s07 hd) (s07.trans s8) e8
        | false =>
          walk_at "GO"
          refine ⟨_, rfl, s7, fun j' z hj' hz => ?_⟩
          rcases Nat.lt_succ_iff_lt_or_eq.mp hj' with h | rfl
          · exact hg2 j' z h hz
          · rw [hyj] at hz; cases hz; exact hb
      · rintro σ H7 ⟨y4, rfl, s7, hg2⟩
        walk_at "GO"
        refine ⟨_, _, rfl, s6.trans s7, fun i' r' hi' hr2 => ?_⟩
        rcases Nat.lt_succ_iff_lt_or_eq.mp hi' with h | rfl
        · exact hgood i' r' h hr2
        · rw [hls] at hr2
          cases hr2
          intro y hy
          obtain ⟨j', hj', rfl⟩ := List.mem_iff_getElem.mp hy
          exact hg2 j' _ hj' (List.getElem?_eq_getElem hj')
    · rintro σ H6 ⟨y3, y4, rfl, s6, hgood⟩
      walk_at "GO"
      refine k1 (fun r hr' y hy => ?_) _ (s05.trans s6)
      obtain ⟨i', hi', rfl⟩ := List.mem_iff_getElem.mp hr'
      exact hgood i' _ (by omega) (List.getElem?_eq_getElem hi') y hy
theorem rows_good {L : Nat} {ak : AskD} {bg : List Nat} (ok : AskOk ak L) (hb : ∀ l ∈ bg, l < L) : ∀ r ∈ rowsOf ak.v ((natI bg).map V.int), ∀ y ∈ r, ∃ l : Nat, y = .int ((l : Nat) : Int) ∧ l < L := fun r hr y hy => by
  have nat : ∀ ls : List Nat, (∀ l ∈ ls, l < L) → ∀ y ∈ (natI ls).map V.int, ∃ l : Nat, y = .int ((l : Nat) : Int) ∧ l < L := fun ls h y hy => by
    obtain ⟨i, hi, e⟩ := List.mem_iff_getElem.mp hy
    obtain ⟨l, hl, rfl⟩ := natI_at (List.getElem?_eq_some_iff.mpr ⟨hi, e⟩)
    exact ⟨l, rfl, h l (List.mem_of_getElem? hl)⟩
  rcases List.mem_cons.mp hr with rfl | hr
  · exact nat _ ok.prompt y hy
  rcases List.mem_append.mp hr with hr | hr
  · obtain ⟨s, hs, rfl⟩ := List.mem_map.mp (show r ∈ ak.stops.map fun s => (natI s).map V.int from hr)
    exact nat s (ok.stops s hs).2.2 y hy
  · rw [List.mem_singleton.mp hr] at hy
    exact nat bg hb y hy
def sp_check_letters (K : PySem.W.Frag) (C CA CR : Addr) : Sp := fun vs H Q _ => ∃ (p a bp : Addr) (nd : NetD) (e : V) (ak : AskD) (b : Bool) (bg : List Nat), vs = [.ref p, .ref a, .ref bp] ∧ IsNet K C H p nd e ∧ IsAsk K CA CR H a ak ∧ AskOk ak nd.emb.length ∧ Sq b K H bp ((natI bg).map V.int) ∧ (∀ l ∈ bg, l < nd.emb.length) ∧ bg.length ≤ 1000 ∧ ∀ H', Same H H' → Q .non H'
theorem ok_check_letters (T : Txt K mg) : FnOk P w K mg base CX0 3 T.a_check_letters T.d_check_letters ["net", "ask", "begun"] (sp_check_letters K T.c_Net T.c_Ask T.c_Rule) := fn_imp (toCX0 (okN_check_letters T)) fun vs H Q E h => by
  obtain ⟨p, a, bp, nd, e, ak, b, bg, rfl, hN, hA, ok, hB, hbl, hbz, k⟩ := h
  have hg := rows_good ok hbl
  have hsl := ok.slen
  refine ⟨p, a, bp, nd, e, ak.v, b, _, rfl, hN, hA, hB, by show (stopsV ak.stops).length ≤ 100; rw [stopsV_len]; omega, fun r hr y hy => ?_, fun _ => k, fun x hx => (hx.not fun r hr y hy => ?_).elim⟩
  · obtain ⟨l, rfl, _⟩ := hg r hr y hy
    exact fun _ _ => .inl ⟨_, rfl⟩
  · obtain ⟨l, rfl, hl⟩ := hg r hr y hy
    exact badV_of hl

/-! ### the law's own choice -/
def RRuT (K : PySem.W.Frag) : Rep (Option (Int × Steps)) := fun H v ru => match ru with
  | none => v = .non
  | some (s, st) => ∃ p q, v = .ref p ∧ Sq false K H p [.int s, q] ∧ RRows false false K H q (rowsV st)
theorem RRuT.mono {K : PySem.W.Frag} : RMono (RRuT K) := fun H H' v ru s h => by
  cases ru with
  | none => exact h
  | some p =>
    obtain ⟨a, q, e, h1, h2⟩ := h
    exact ⟨a, q, e, s.sq h1, RRows.mono _ _ _ _ s h2⟩
def sp_L_after (K : PySem.W.Frag) : Sp := fun vs H Q _ => ∃ (v : V) (s : Int) (st : Steps) (n L : Nat) (b : Bool) (tp : Addr) (ls : List Int), vs = [v, .ref tp] ∧ RRuT K H v (some (s, st)) ∧ StepsOk st n L ∧ 0 ≤ s ∧ s < n ∧ Sq b K H tp (ls.map V.int) ∧ (∀ l ∈ ls, 0 ≤ l ∧ l < L) ∧ Q (vO (afterR st (some s) ls)) H
theorem ok_L_after (T : Txt K mg) : FnOk P w K mg base CX0 1 T.a_L_after T.d_L_after ["_law_rule_here", "_law_text"] (sp_L_after K) := by
  refine T.F_L_after.ok sc_L_after (fun vs H Q E h => ?_) (fun cdv A outer s H vs Q E hr h => ?_)
  · obtain ⟨_, _, _, _, _, _, _, _, rfl, _⟩ := h
    rfl
  · obtain ⟨v, s0, st, n, L, b, tp, ls, rfl, ⟨rp, qv, rfl, hp0, hR⟩, ok, hs0, hs1, hT, hls, k⟩ := h
    refine ⟨_, (pss_cons (ps_set (i := 2) sc_L_after.nd rfl (Or.inl rfl) (pe_ix (k_ix (K := K) rfl) (pv 0) pe_int (fun _ _ => rfl)))
      (pss_cons (ps_for PassesOwn.never rfl (k_seqS (K := K) rfl (pv 1)) (pg_name (i := 3) sc_L_after.nd rfl (Or.inl rfl))
      (pss_one (ps_if (pt_cmpR op_notNN (pv 2) pe_non (nomark _)) (pss_one (ps_set (i := 2) sc_L_after.nd rfl (Or.inl rfl) (pe_ix (k_ix (K := K) rfl) (pe_ix (k_ix (K := K) rfl) (pe_ix (k_ix (K := K) rfl) (pv 0) pe_int (fun _ _ => rfl)) (pv 2) (fun _ _ => rfl)) (pv 3) (fun _ _ => rfl)))) pss_nil)))
      (pss_one (ps_ret (pv 2))))), ?_⟩
    refine go_start (σ' := [some (.ref rp), some (.ref tp), none, none]) rfl ?_
    try dsimp only [cxOf, Cx.nox, Cx.wish]
    walk_at "go"
    refine w_ix hp0 (atI_nat (j := 0) rfl) ?_
    walk_at "go"
    refine l_seq (b := b) (ls.map V.int) (fun i σ H' => ∃ y4, σ = [some (.ref rp), some (.ref tp), some (vO (afterR st (some s0) (ls.take i))), y4] ∧ H' = H) hT ⟨none, rfl, rfl⟩ (fun i σ H' _ ⟨_, _, e⟩ => by rw [e]; exact hT) ?_ ?_
    · rintro i x σ H' hi hx ⟨y4, rfl, rfl⟩
      obtain ⟨rfl, hi1⟩ := vec_at hx
      have hli := hls _ (nth_mem (ns := ls) (i := ((i : Nat) : Int)) (by omega) (by omega))
      have e := afterR_take (st := st) (s := some s0) hi1
      have hq := afterR_small ok (ls.take i) (some s0) (fun q e => by cases e; exact ⟨hs0, hs1⟩) (fun l h => hls l (List.mem_of_mem_take h))
      generalize afterR st (some s0) (ls.take i) = o at e hq ⊢
      rw [e]
      cases o with
      | none =>
        dsimp only [vO]
        walk_at "go"
        exact ⟨_, rfl, rfl⟩
      | some q =>
        dsimp only [vO]
        have hq := hq q rfl
        obtain ⟨a, vs, p, rr, ea, hv, hat, hp, hat2, _⟩ := steps_look ok hR hq.1 hq.2 hli.1 hli.2
        subst ea
        walk_at "go"
        refine w_ix hp0 (atI_nat (j := 1) rfl) ?_
        walk_at "go"
        refine w_ix hv hat ?_
        walk_at "go"
        refine w_ix hp hat2 ?_
        walk_at "go"
        exact ⟨_, rfl, rfl⟩
    · rintro σ H' ⟨y4, rfl, rfl⟩
      rw [List.length_map, List.take_length]
      walk_at "go"
      exact k
theorem nth_set {ns : List Int} {i j : Nat} {z : Int} (hi : i < ns.length) : nth (ns.set i z) ((j : Nat) : Int) = if j = i then z else nth ns ((j : Nat) : Int) := by
  rw [nth_nat, nth_nat, List.getD_eq_getElem?_getD, List.getD_eq_getElem?_getD, List.getElem?_set]
  by_cases h : i = j
  · subst h
    rw [if_pos rfl, if_pos hi, if_pos rfl]; rfl
  · rw [if_neg h, if_neg (fun e => h e.symm)]
theorem list_nth {as bs : List Int} (hl : as.length = bs.length) (h : ∀ j : Nat, j < as.length → nth as ((j : Nat) : Int) = nth bs ((j : Nat) : Int)) : as = bs := by
  refine List.ext_getElem? fun i => ?_
  by_cases hi : i < as.length
  · have e := h i hi
    rw [nth_nat, nth_nat, List.getD_eq_getElem?_getD, List.getD_eq_getElem?_getD, List.getElem?_eq_getElem hi, List.getElem?_eq_getElem (by omega)] at e
    rw [List.getElem?_eq_getElem hi, List.getElem?_eq_getElem (by omega)]
    exact congrArg some e
  · rw [List.getElem?_eq_none (by omega), List.getElem?_eq_none (by omega)]
def sp_L_counted (K : PySem.W.Frag) : Sp := fun vs H Q _ => ∃ (v1 v2 : V) (tp : Addr) (ws : List Int) (ru : Option (Int × Steps)) (text : List Nat) (b : Bool) (L : Nat), vs = [v1, v2, .ref tp] ∧ RVecX K H v1 ws ∧ ws.length = L ∧ L ≤ 100 ∧ RRuT K H v2 ru ∧ RuleOk L ru ∧ Sq b K H tp ((natI text).map V.int) ∧ (∀ l ∈ text, l < L) ∧
  ∀ D H', Same H H' → H' D = some (.lst ((letW ru ws text).map V.int)) → Q (.ref D) H'
theorem ok_L_counted (T : Txt K mg) : FnOk P w K mg base CX0 2 T.a_L_counted T.d_L_counted ["_law_weights", "_law_rule_here", "_law_text"] (sp_L_counted K) := by
  refine T.F_L_counted.ok sc_L_counted (fun vs H Q E h => ?_) (fun cdv A outer s H vs Q E hr h => ?_)
  · obtain ⟨_, _, _, _, _, _, _, _, rfl, _⟩ := h
    rfl
  · obtain ⟨v1, v2, tp, ws, ru, text, b, L, rfl, ⟨b1, a1, rfl, h1⟩, hwl, hL, hru, hro, hT, htx, k⟩ := h
    refine ⟨_, (pss_cons (ps_set (i := 3) sc_L_counted.nd rfl (Or.inl rfl) (pe_callTy (k_listS (K := K) rfl) (by rfl) T.z_list (by decide +kernel) (pa_cons (pv 0) pa_nil)))
      (pss_cons (ps_if (pt_cmpR op_notNN (pv 1) pe_non (nomark _)) (pss_cons (ps_set (i := 4) sc_L_counted.nd rfl (Or.inl rfl) (pe_call (ok_L_after T) (hr.mono (by decide)) (by rfl) T.g_L_after T.F_L_after.kp T.b_L_after .nil pass0 (pa_cons (pv 1) (pa_cons (pv 2) pa_nil))))
      (pss_one (ps_for PassesOwn.never rfl (pi_range1 rfl T.z_range (pa_cons (pe_callB (k_lenS (K := K) rfl) (by rfl) T.z_len (by decide +kernel) (pa_cons (pv 0) pa_nil)) pa_nil)) (pg_name (i := 5) sc_L_counted.nd rfl (Or.inl rfl))
      (pss_one (ps_if (PW.pt (pw_or (pt_cmpR op_isNN (pv 4) pe_non (nomark _)) (pw_or1 (pt_cmpR op_isNN (pe_ix (k_ix (K := K) rfl) (pe_ix (k_ix (K := K) rfl) (pe_ix (k_ix (K := K) rfl) (pv 1) pe_int (fun _ _ => rfl)) (pv 4) (fun _ _ => rfl)) (pv 5) (fun _ _ => rfl)) pe_non (nomark _))))) (pss_one (ps_asg pe_int (pg_sub (pv 3) (pv 5) set_list))) pss_nil))))) pss_nil)
      (pss_one (ps_ret (pv 3))))), ?_⟩
    refine go_start (σ' := [some (.ref a1), some v2, some (.ref tp), none, none, none]) rfl ?_
    try dsimp only [cxOf, Cx.nox, Cx.wish]
    walk_at "go"
    refine w_listS h1 fun D hD => ?_
    have s1 := Same.new (o := .lst (ws.map V.int)) hD
    have eD : (upd H D (.lst (ws.map V.int))) D = some (.lst (ws.map V.int)) := upd_same
    generalize upd H D (.lst (ws.map V.int)) = H1 at s1 eD ⊢
    cases ru with
    | none =>
      have hru : v2 = .non := hru
      subst hru
      walk_at "go"
      exact k D _ s1 eD
    | some pr =>
      obtain ⟨s0, st⟩ := pr
      obtain ⟨n, okS, hs0, hs1⟩ := hro
      have hru1 := RRuT.mono _ _ _ _ s1 hru
      obtain ⟨rp, qv, rfl, hp0, hR⟩ := id hru1
      have hT1 := s1.sq hT
      have h11 := s1.sq h1
      walk_at "go"
      refine ⟨_, s0, st, n, L, b, tp, natI text, rfl, hru1, okS, hs0, hs1, hT1, natI_lt htx, ?_⟩
      have hq := afterR_small okS (natI text) (some s0) (fun q e => by cases e; exact ⟨hs0, hs1⟩) (natI_lt htx)
      have hln := fun l (h : l < ws.length) => letW_nth (s := s0) (st := st) (ws := ws) (text := text) (l := l) h
      have hll := letW_len (some (s0, st)) ws text
      generalize afterR st (some s0) (natI text) = o at hq hln ⊢
      generalize letW (some (s0, st)) ws text = lw at hln hll k ⊢
      walk_at "go"
      refine l_range (fun i σ H' => ∃ (y5 : Option V) (cs : List Int), σ = [some (.ref a1), some (.ref rp), some (.ref tp), some (.ref D), some (vO o), y5] ∧ cs.length = ws.length ∧ (∀ j : Nat, j < cs.length → nth cs ((j : Nat) : Int) = if j < i then nth lw ((j : Nat) : Int) else nth ws ((j : Nat) : Int)) ∧ Same H H' ∧ H' D = some (.lst (cs.map V.int)))
        (by omega) (by omega) ⟨_, ws, rfl, rfl, fun j _ => by rw [if_neg (Nat.not_lt_zero j)], s1, eD⟩ ?_ ?_
      · rintro i σ H2 hi ⟨y5, cs, rfl, hcl, hcs, s2, e2⟩
        have hi2 : i < cs.length := by omega
        have ecs := hcs i hi2
        rw [if_neg (Nat.lt_irrefl i)] at ecs
        have eln := hln i (by omega)
        have put : ∀ (H3 : Hp), H3 = upd H2 D (.lst ((cs.set ((i : Nat) : Int).toNat 0).map V.int)) → nth lw ((i : Nat) : Int) = 0 → ∃ (y5 : Option V) (cs' : List Int), [some (V.ref a1), some (.ref rp), some (.ref tp), some (.ref D), some (vO o), some (.int (i : Nat))] = [some (.ref a1), some (.ref rp), some (.ref tp), some (.ref D), some (vO o), y5] ∧ cs'.length = ws.length ∧ (∀ j : Nat, j < cs'.length → nth cs' ((j : Nat) : Int) = if j < i + 1 then nth lw ((j : Nat) : Int) else nth ws ((j : Nat) : Int)) ∧ Same H H3 ∧ H3 D = some (.lst (cs'.map V.int)) := fun H3 e3 hz => by
          subst e3
          rw [Int.toNat_natCast]
          refine ⟨_, _, rfl, by rw [List.length_set]; exact hcl, fun j hj => ?_, Same.mut s2 hD, upd_same⟩
          rw [List.length_set] at hj
          rw [nth_set hi2]
          by_cases h : j = i
          · subst h
            rw [if_pos rfl, if_pos (Nat.lt_succ_self _), hz]
          · rw [if_neg h, hcs j hj]
            by_cases h2 : j < i
            · rw [if_pos h2, if_pos (by omega)]
            · rw [if_neg h2, if_neg (by omega)]
        have stay : nth lw ((i : Nat) : Int) = nth ws ((i : Nat) : Int) → ∃ (y5 : Option V) (cs' : List Int), [some (V.ref a1), some (.ref rp), some (.ref tp), some (.ref D), some (vO o), some (.int (i : Nat))] = [some (.ref a1), some (.ref rp), some (.ref tp), some (.ref D), some (vO o), y5] ∧ cs'.length = ws.length ∧ (∀ j : Nat, j < cs'.length → nth cs' ((j : Nat) : Int) = if j < i + 1 then nth lw ((j : Nat) : Int) else nth ws ((j : Nat) : Int)) ∧ Same H H2 ∧ H2 D = some (.lst (cs'.map V.int)) := fun hz => by
          refine ⟨_, cs, rfl, hcl, fun j hj => ?_, s2, e2⟩
          rw [hcs j hj]
          by_cases h : j = i
          · subst h
            rw [if_neg (Nat.lt_irrefl _), if_pos (Nat.lt_succ_self _), hz]
          · by_cases h2 : j < i
            · rw [if_pos h2, if_pos (by omega)]
            · rw [if_neg h2, if_neg (by omega)]
        cases o with
        | none =>
          dsimp only [vO] at put stay ⊢
          have e0 : nth lw ((i : Nat) : Int) = 0 := by rw [eln]; exact Int.mul_zero _
          walk_at "go"
          refine w_setI e2 (by omega) (by omega) ?_
          walk_at "go"
          exact put _ rfl e0
        | some q =>
          dsimp only [vO] at put stay ⊢
          have hq2 := hq q rfl
          have hRm := RRuT.mono _ _ _ _ s2 hru
          obtain ⟨rp', qv', er, hp02, hR2⟩ := id hRm
          cases er
          obtain ⟨a, vs, p, rr, ea, hv, hat, hp, hat2, _⟩ := steps_look okS hR2 (l := ((i : Nat) : Int)) hq2.1 hq2.2 (by omega) (by omega)
          subst ea
          walk_at "go"
          refine w_ix hp02 (atI_nat (j := 1) rfl) ?_
          walk_at "go"
          refine w_ix hv hat ?_
          walk_at "go"
          refine w_ix hp hat2 ?_
          cases hx : stepR st (some q) ((i : Nat) : Int) with
          | none =>
            dsimp only [vO]
            rw [hx] at eln
            have e0 : nth lw ((i : Nat) : Int) = 0 := by rw [eln]; exact Int.mul_zero _
            walk_at "go"
            refine w_setI e2 (by omega) (by omega) ?_
            walk_at "go"
            exact put _ rfl e0
          | some x =>
            dsimp only [vO]
            rw [hx] at eln
            have e0 : nth lw ((i : Nat) : Int) = nth ws ((i : Nat) : Int) := by rw [eln]; exact Int.mul_one _
            walk_at "go"
            exact stay e0
      · rintro σ H2 ⟨y5, cs, rfl, hcl, hcs, s2, e2⟩
        have e : cs = lw := list_nth (by omega) fun j hj => by rw [hcs j hj, if_pos (by omega)]
        subst e
        walk_at "go"
        exact k D _ s2 e2
def sp_L_choice (K : PySem.W.Frag) : Sp := fun vs H Q _ => ∃ (v1 v2 : V) (tap tp : Addr) (ws tape : List Int) (ru : Option (Int × Steps)) (text : List Nat) (b : Bool) (L : Nat), vs = [v1, v2, .ref tap, .ref tp] ∧ RVecX K H v1 ws ∧ ws.length = L ∧ 0 < L ∧ L ≤ 100 ∧ (∀ x ∈ ws, 0 ≤ x ∧ x ≤ 1000) ∧ RRuT K H v2 ru ∧ RuleOk L ru ∧ Sq false K H tap (tape.map V.int) ∧ Sq b K H tp ((natI text).map V.int) ∧ (∀ l ∈ text, l < L) ∧
  ∀ H', Same H H' → Q (vN (choiceD ru tape ws text)) H'
theorem ok_L_choice (T : Txt K mg) : FnOk P w K mg base CX0 3 T.a_L_choice T.d_L_choice ["_law_weights", "_law_rule_here", "_law_tape_here", "_law_text"] (sp_L_choice K) := by
  refine T.F_L_choice.ok sc_L_choice (fun vs H Q E h => ?_) (fun cdv A outer s H vs Q E hr h => ?_)
  · obtain ⟨_, _, _, _, _, _, _, _, _, _, rfl, _⟩ := h
    rfl
  · obtain ⟨v1, v2, tap, tp, ws, tape, ru, text, b, L, rfl, h1, hwl, hL0, hL, hwb, hru, hro, hta, hT, htx, k⟩ := h
    refine ⟨_, (pss_cons (ps_set (i := 4) sc_L_choice.nd rfl (Or.inl rfl) (pe_call (ok_L_counted T) (hr.mono (by decide)) (by rfl) T.g_L_counted T.F_L_counted.kp T.b_L_counted .nil pass0 (pa_cons (pv 0) (pa_cons (pv 1) (pa_cons (pv 3) pa_nil)))))
      (pss_cons (ps_if (pt_cmpR (k_eqG (K := K) rfl hr.units) (pe_callB (k_sumS (K := K) rfl rfl) (by rfl) T.z_sum (by decide +kernel) (pa_cons (pv 4) pa_nil)) pe_int (nomark _)) (pss_one (ps_ret pe_non)) pss_nil)
      (pss_cons (ps_if (pt_cmpR (k_eqG (K := K) rfl hr.units) (pe_callB (k_lenS (K := K) rfl) (by rfl) T.z_len (by decide +kernel) (pa_cons (pv 2) pa_nil)) pe_int (nomark _)) (pss_one (ps_ret (k_bm (K := K) rfl PySem.F.plainAttrs_list PySem.F.slot_list_index PySem.F.type_list_index (k_index (K := K) rfl) (pv 4) (pa_cons (pe_callB (k_max (K := K) rfl rfl) (by rfl) T.z_max (by decide +kernel) (pa_cons (pv 4) pa_nil)) pa_nil)))) pss_nil)
      (pss_cons (ps_set (i := 5) sc_L_choice.nd rfl (Or.inl rfl) (pe_op op_mod (pe_callTy cr_int1 (by rfl) T.z_int (by decide +kernel) (pa_cons (pe_ix (k_ix (K := K) rfl) (pv 2) (pe_op op_mod (pe_callTy cr_int1 (by rfl) T.z_int (by decide +kernel) (pa_cons (pe_callB (k_lenS (K := K) rfl) (by rfl) T.z_len (by decide +kernel) (pa_cons (pv 3) pa_nil)) pa_nil)) (pe_callB (k_lenS (K := K) rfl) (by rfl) T.z_len (by decide +kernel) (pa_cons (pv 2) pa_nil))) (fun _ _ => rfl)) pa_nil)) (pe_callB (k_sumS (K := K) rfl rfl) (by rfl) T.z_sum (by decide +kernel) (pa_cons (pv 4) pa_nil))))
      (pss_cons (ps_set (i := 6) sc_L_choice.nd rfl (Or.inl rfl) pe_int)
      (pss_cons (ps_for PassesOwn.never rfl (pi_range1 rfl T.z_range (pa_cons (pe_callB (k_lenS (K := K) rfl) (by rfl) T.z_len (by decide +kernel) (pa_cons (pv 4) pa_nil)) pa_nil)) (pg_name (i := 7) sc_L_choice.nd rfl (Or.inl rfl))
      (pss_one (ps_if (pt_cmpR op_ge (pv 5) (pe_callB (k_sumS (K := K) rfl rfl) (by rfl) T.z_sum (by decide +kernel) (pa_cons (pe_slice (k_slG (K := K) rfl) (pv 4) po_none (po_some (pe_op (k_addG (K := K) rfl) (pv 7) pe_int))) pa_nil)) (nomark _)) (pss_one (ps_set (i := 6) sc_L_choice.nd rfl (Or.inl rfl) (pe_op (k_addG (K := K) rfl) (pv 7) pe_int))) pss_nil)))
      (pss_one (ps_ret (pv 6))))))))), ?_⟩
    refine go_start (σ' := [some v1, some v2, some (.ref tap), some (.ref tp), none, none, none, none]) rfl ?_
    try dsimp only [cxOf, Cx.nox, Cx.wish]
    walk_at "go"
    refine ⟨v1, v2, tp, ws, ru, text, b, L, rfl, h1, hwl, hL, hru, hro, hT, htx, fun D H1 s1 eD => ?_⟩
    have hlen := letW_len ru ws text
    have hnn := letW_nonneg (ru := ru) (text := text) (fun x hx => (hwb x hx).1)
    unfold choiceD at k
    generalize letW ru ws text = lw at eD hlen hnn k ⊢
    have hta1 := s1.sq hta
    have hT1 := s1.sq hT
    have hlp : 0 < lw.length := by omega
    walk_at "go"
    refine w_iteD (fun hz => ?_) (fun hz => ?_)
    · walk_at "go"
      rw [if_pos hz] at k
      exact k _ s1
    rw [if_neg hz] at k
    have hsp : 0 < lw.sum := by
      have := sum_nonneg hnn
      omega
    walk_at "go"
    refine w_iteD (fun ht => ?_) (fun ht => ?_)
    · rw [if_pos (by omega)] at k
      walk_at "go"
      refine w_maxI (Sq.lst eD) hlp fun m hm1 hm2 => ?_
      have hb := bestUpTo_best lw lw.length
      have hbl := bestUpTo_len hlp (Nat.le_refl _)
      have ebest : nth lw ((bestUpTo lw lw.length : Nat) : Int) = m := by
        obtain ⟨j, hj, e⟩ := List.mem_iff_getElem.mp hm1
        have e2 : nth lw ((j : Nat) : Int) = m := by rw [nth_nat, List.getD_eq_getElem?_getD, List.getElem?_eq_getElem hj]; exact e
        have h1 := hb.1 j hj
        have h2 := hm2 _ (nth_mem (ns := lw) (i := ((bestUpTo lw lw.length : Nat) : Int)) (by omega) (by omega))
        omega
      walk_at "go"
      refine w_indexI (ns := lw) (j := bestUpTo lw lw.length) (Sq.lst eD) hbl ebest (fun m' hm' => ?_) ?_
      · have := hb.2 m' hm'
        omega
      walk_at "go"
      exact k _ s1
    · rw [if_neg (by omega)] at k
      have hm0 : 0 ≤ ((natI text).length : Int) % (tape.length : Int) := Int.emod_nonneg _ ht
      have hm1 : ((natI text).length : Int) % (tape.length : Int) < tape.length := Int.emod_lt_of_pos _ (by omega)
      walk_at "go"
      rw [natI_len]
      generalize nth tape (((text.length : Nat) : Int) % (tape.length : Int)) = nb at k ⊢
      have hr0 : 0 ≤ nb % lw.sum := Int.emod_nonneg _ (by omega)
      have hr1 : nb % lw.sum < lw.sum := Int.emod_lt_of_pos _ hsp
      refine l_range (fun j σ H' => ∃ (l : Nat) (y7 : Option V), σ = [some v1, some v2, some (.ref tap), some (.ref tp), some (.ref D), some (.int (nb % lw.sum)), some (.int (l : Nat)), y7] ∧
          l ≤ j ∧ pre lw l ≤ nb % lw.sum ∧ (∀ m : Nat, l ≤ m → m < j → nb % lw.sum < pre lw (m + 1)) ∧ Same H1 H')
        (by omega) (by omega) ⟨0, _, rfl, Nat.le_refl _, by rw [pre_zero]; exact hr0, fun m _ h => absurd h (Nat.not_lt_zero m), Same.refl _⟩ ?_ ?_
      · rintro j σ H8 hj ⟨l, z7, rfl, hl, hp1, hp2, s8⟩
        have eD8 := s8 _ _ eD
        walk_at "go"
        refine w_slTo (ns := lw) (Sq.lst eD8) (by omega) fun p1 hp1' => ?_
        have s9 := Same.new (o := .lst ((lw.take ((j : Int) + 1).toNat).map V.int)) hp1'
        have e9 : (upd H8 p1 (.lst ((lw.take ((j : Int) + 1).toNat).map V.int))) p1 = some (.lst ((lw.take ((j : Int) + 1).toNat).map V.int)) := upd_same
        generalize upd H8 p1 (.lst ((lw.take ((j : Int) + 1).toNat).map V.int)) = H9 at s9 e9 ⊢
        walk_at "go"
        have etake : (lw.take ((j : Int) + 1).toNat).sum = pre lw (j + 1) := by
          unfold pre
          rw [show ((j : Int) + 1).toNat = j + 1 by omega]
        rw [etake]
        refine w_iteD (fun hc => ?_) (fun hc => ?_)
        · walk_at "go"
          exact ⟨j + 1, _, rfl, Nat.le_refl _, hc, fun m h1 h2 => by omega, s8.trans s9⟩
        · walk_at "go"
          refine ⟨l, _, rfl, by omega, hp1, fun m h1 h2 => ?_, s8.trans s9⟩
          by_cases e : m = j
          · subst e; omega
          · exact hp2 m h1 (by omega)
      rintro σ H8 ⟨l, z7, rfl, hl, hp1, hp2, s8⟩
      have hll : l < lw.length := by
        rcases Nat.lt_or_ge l lw.length with h | h
        · exact h
        · have e : l = lw.length := by omega
          rw [e, pre_all] at hp1
          omega
      have hpl := hp2 l (Nat.le_refl _) (by omega)
      rw [numOf_eq hnn hll hp1 hpl] at k
      walk_at "go"
      exact k _ (s1.trans s8)

/-! ### the law's own stops and ends -/
def endsOf (text s : List Nat) : Bool := decide (s.length ≤ text.length ∧ text.drop (text.length - s.length) = s)

def sp_L_ends (K : PySem.W.Frag) : Sp := fun vs H Q _ => ∃ (tp sp : Addr) (b : Bool) (text s : List Nat), vs = [.ref tp, .ref sp] ∧ Sq b K H tp ((natI text).map V.int) ∧ Sq false K H sp ((natI s).map V.int) ∧ ∀ H', Same H H' → Q (.bl (endsOf text s)) H'
theorem ok_L_ends (T : Txt K mg) : FnOk P w K mg base CX0 1 T.a_L_ends T.d_L_ends ["_law_text", "_law_stop"] (sp_L_ends K) := by
  refine T.F_L_ends.ok sc_L_ends (fun vs H Q E h => ?_) (fun cdv A outer s H vs Q E hr h => ?_)
  · obtain ⟨_, _, _, _, _, rfl, _⟩ := h
    rfl
  · obtain ⟨tp, sp, b, text, s0, rfl, hT, hS, k⟩ := h
    have hl1 := natI_len text
    have hl2 := natI_len s0
    refine ⟨_, (pss_one (ps_ret (pe_and (pe_cmpR op_le (pe_callB (k_lenS (K := K) rfl) (by rfl) T.z_len (by decide +kernel) (pa_cons (pv 1) pa_nil)) (pe_callB (k_lenS (K := K) rfl) (by rfl) T.z_len (by decide +kernel) (pa_cons (pv 0) pa_nil)) (nomark _)) (pe_one (pe_cmpR (k_eqG (K := K) rfl hr.units) (pe_callTy (k_tupS (K := K) rfl) (by rfl) T.z_tuple (by decide +kernel) (pa_cons (pe_slice (k_slG (K := K) rfl) (pv 0) (po_some (pe_op op_sub (pe_callB (k_lenS (K := K) rfl) (by rfl) T.z_len (by decide +kernel) (pa_cons (pv 0) pa_nil)) (pe_callB (k_lenS (K := K) rfl) (by rfl) T.z_len (by decide +kernel) (pa_cons (pv 1) pa_nil)))) po_none) pa_nil)) (pe_callTy (k_tupS (K := K) rfl) (by rfl) T.z_tuple (by decide +kernel) (pa_cons (pv 1) pa_nil)) (nomark _)))))), ?_⟩
    refine go_start (σ' := [some (.ref tp), some (.ref sp)]) rfl ?_
    try dsimp only [cxOf, Cx.nox, Cx.wish]
    unfold endsOf at k
    walk_at "go"
    refine w_iteD (fun h1 => ?_) (fun h1 => ?_)
    · walk_at "go"
      refine w_slAny (ys := (natI (text.drop (text.length - s0.length))).map V.int) hT (by
        rw [show ((natI text).length : Int) - ((natI s0).length : Int) = ((text.length - s0.length : Nat) : Int) by omega, cutV_from (by rw [List.length_map]; omega), natI_dropV]) fun p1 H1 s1 hp1 => ?_
      walk_at "go"
      refine w_tupAny hp1 fun p2 H2 s2 hp2 => ?_
      have hS2 := (s1.trans s2).sq hS
      walk_at "go"
      refine w_tupAny hS2 fun p3 H3 s3 hp3 => ?_
      walk_at "go"
      refine w_eqInts (s3.sq hp2) hp3 ?_
      have e : decide (natI (text.drop (text.length - s0.length)) = natI s0) = decide (s0.length ≤ text.length ∧ text.drop (text.length - s0.length) = s0) := by
        rw [decide_eq_decide]
        exact ⟨fun h => ⟨by omega, natI_inj.mp h⟩, fun h => natI_inj.mpr h.2⟩
      rw [e]
      exact k _ ((s1.trans s2).trans s3)
    · walk_at "go"
      have e : false = decide (s0.length ≤ text.length ∧ text.drop (text.length - s0.length) = s0) := (decide_eq_false fun h => h1 (by omega)).symm
      rw [e]
      exact k _ (Same.refl _)

theorem stopLen_alt (text : List Nat) (ss : List (List Nat)) {i : Nat} {s : List Nat} (hi : ss[i]? = some s) : stopLen text (ss.take (i + 1)) = if endsOf text s = true then (if stopLen text (ss.take i) < s.length then s.length else stopLen text (ss.take i)) else stopLen text (ss.take i) := by
  rw [stopLen_take text ss hi]
  unfold endsOf
  by_cases h : s.length ≤ text.length ∧ text.drop (text.length - s.length) = s
  · rw [decide_eq_true h, if_pos rfl]
    by_cases h2 : stopLen text (ss.take i) < s.length
    · rw [if_pos ⟨h2, h⟩, if_pos h2]
    · rw [if_neg (fun z => h2 z.1), if_neg h2]
  · rw [decide_eq_false h, if_neg (fun z => h z.2), if_neg (by decide)]

def sp_L_stopped (K : PySem.W.Frag) : Sp := fun vs H Q _ => ∃ (tp : Addr) (v : V) (b : Bool) (text : List Nat) (ss : List (List Nat)), vs = [.ref tp, v] ∧ Sq b K H tp ((natI text).map V.int) ∧ RRows false false K H v (stopsV ss) ∧ ss.length ≤ 100 ∧ ∀ H', Same H H' → Q (.int (stopLen text ss : Nat)) H'
theorem ok_L_stopped (T : Txt K mg) : FnOk P w K mg base CX0 2 T.a_L_stopped T.d_L_stopped ["_law_text", "_law_stops_here"] (sp_L_stopped K) := by
  refine T.F_L_stopped.ok sc_L_stopped (fun vs H Q E h => ?_) (fun cdv A outer s H vs Q E hr h => ?_)
  · obtain ⟨_, _, _, _, _, rfl, _⟩ := h
    rfl
  · obtain ⟨tp, v, b, text, ss, rfl, hT, hS, hsl, k⟩ := h
    obtain ⟨sp, xs, rfl, hx, hxl, hxr⟩ := id hS
    rw [stopsV_len] at hxl
    refine ⟨_, (pss_cons (ps_set (i := 2) sc_L_stopped.nd rfl (Or.inl rfl) pe_int)
      (pss_cons (ps_for PassesOwn.never rfl (k_seqS (K := K) rfl (pv 1)) (pg_name (i := 3) sc_L_stopped.nd rfl (Or.inl rfl))
      (pss_one (ps_if (k_tru (K := K) rfl (pe_call (ok_L_ends T) (hr.mono (by decide)) (by rfl) T.g_L_ends T.F_L_ends.kp T.b_L_ends .nil pass0 (pa_cons (pv 0) (pa_cons (pv 3) pa_nil))) (by intro _; rfl)) (pss_one (ps_set (i := 2) sc_L_stopped.nd rfl (Or.inl rfl) (pe_callB (cr_max2 rfl) (by rfl) T.z_max (by decide +kernel) (pa_cons (pv 2) (pa_cons (pe_callB (k_lenS (K := K) rfl) (by rfl) T.z_len (by decide +kernel) (pa_cons (pv 3) pa_nil)) pa_nil))))) pss_nil)))
      (pss_one (ps_ret (pv 2))))), ?_⟩
    refine go_start (σ' := [some (.ref tp), some (.ref sp), none, none]) rfl ?_
    try dsimp only [cxOf, Cx.nox, Cx.wish]
    walk_at "go"
    refine l_seq (b := false) xs (fun i σ H' => ∃ y3, σ = [some (.ref tp), some (.ref sp), some (.int (stopLen text (ss.take i) : Nat)), y3] ∧ Same H H') hx ⟨none, rfl, Same.refl _⟩ (fun i σ H' _ ⟨_, _, s1⟩ => s1.sq hx) ?_ ?_
    · rintro i x σ H' hi hxi ⟨y3, rfl, s1⟩
      have hsi : ss[i]? = some (ss[i]'(by omega)) := List.getElem?_eq_getElem (by omega)
      generalize ss[i]'(by omega) = s at hsi
      obtain ⟨p, rfl, hp⟩ := hxr i x _ hxi (stopsV_at hsi)
      have hp1 := s1.sq hp
      have hT1 := s1.sq hT
      have hnl := natI_len s
      have e := stopLen_alt text ss hsi
      generalize stopLen text (ss.take i) = m at e ⊢
      generalize stopLen text (ss.take (i + 1)) = m2 at e ⊢
      walk_at "go"
      refine ⟨tp, p, b, text, s, rfl, hT1, hp1, fun H2 s2 => ?_⟩
      have hp2 := s2.sq hp1
      walk_at "go"
      refine w_iteB (fun h => ?_) (fun h => ?_)
      · rw [if_pos h] at e
        walk_at "go"
        have e3 : (if ((natI s).length : Int) > ((m : Nat) : Int) then ((natI s).length : Int) else ((m : Nat) : Int)) = (((if m < s.length then s.length else m) : Nat) : Int) := by
          by_cases h : m < s.length
          · rw [if_pos (by omega), if_pos h, hnl]
          · rw [if_neg (by omega), if_neg h]
        rw [e3, ← e]
        exact ⟨_, rfl, s1.trans s2⟩
      · rw [if_neg (by rw [h]; decide)] at e
        walk_at "go"
        rw [e]
        exact ⟨_, rfl, s1.trans s2⟩
    · rintro σ H' ⟨y3, rfl, s1⟩
      rw [hxl, List.take_length]
      walk_at "go"
      exact k _ s1

def nextTx (en : Option Nat) (most : Nat) (stops : List (List Nat)) (text : List Nat) : Option Nat → List Nat × Option Str
  | none => (text, some "stuck")
  | some l => if en = some l then (text, some "end") else if 0 < stopLen (text ++ [l]) stops then ((text ++ [l]).take ((text ++ [l]).length - stopLen (text ++ [l]) stops), some "stop")
    else (text ++ [l], if (text ++ [l]).length = most then some "most" else none)
theorem nextD_of (en : Option Nat) (ak : AskD) (ws : List Int) (text : List Nat) : nextD en ak ws text = nextTx en ak.most ak.stops text (choiceD ak.rule ak.tape ws text) := by
  unfold nextD nextTx
  cases choiceD ak.rule ak.tape ws text <;> rfl
theorem nextTx_none {en : Option Nat} {most : Nat} {stops : List (List Nat)} {text : List Nat} {o : Option Nat} (h : (nextTx en most stops text o).2 = none) : ∃ l, o = some l ∧ (nextTx en most stops text o).1 = text ++ [l] ∧ text.length + 1 ≠ most := by
  cases o with
  | none => cases h
  | some l =>
    refine ⟨l, rfl, ?_⟩
    unfold nextTx at h ⊢
    dsimp only at h ⊢
    by_cases h1 : en = some l
    · rw [if_pos h1] at h; cases h
    · rw [if_neg h1] at h ⊢
      by_cases h2 : 0 < stopLen (text ++ [l]) stops
      · rw [if_pos h2] at h; cases h
      · rw [if_neg h2] at h ⊢
        dsimp only at h ⊢
        by_cases h3 : (text ++ [l]).length = most
        · rw [if_pos h3] at h; cases h
        · refine ⟨rfl, ?_⟩
          rw [List.length_append] at h3
          exact h3

/-! ### rules, stops and tapes drawn -/
def sp_L_rule (K : PySem.W.Frag) : Sp := fun vs H Q _ => ∃ (p : Addr) (ns : List Int) (m : Int) (L : Nat), vs = [.ref p, .int m, .int L] ∧ H p = some (.lst (ns.map V.int)) ∧ (ns.length : Int) ≥ m + 80 ∧ 0 ≤ m ∧ 1 ≤ L ∧ L ≤ 12 ∧
  ∀ ru v' H', RuleOk L ru → Same H H' → RRuT K H' v' ru → Q v' H'
theorem ok_L_rule (T : Txt K mg) : FnOk P w K mg base CX0 1 T.a_L_rule T.d_L_rule ["_law_numbers_here", "_law_k", "_law_letters"] (sp_L_rule K) := by
  refine T.F_L_rule.ok sc_L_rule (fun vs H Q E h => ?_) (fun cdv A outer s H vs Q E hr h => ?_)
  · obtain ⟨_, _, _, _, rfl, _⟩ := h
    rfl
  · obtain ⟨p, ns, m, L, rfl, hL, hnl, hm0, hL0, hL1, k⟩ := h
    refine ⟨_, (pss_cons (ps_if (pt_cmpR op_gt (pe_op op_mod (pe_callTy cr_int1 (by rfl) T.z_int (by decide +kernel) (pa_cons (pe_ix (k_ix (K := K) rfl) (pv 0) (pv 1) (fun _ _ => rfl)) pa_nil)) pe_int) pe_int (nomark _)) (pss_one (ps_ret pe_non)) pss_nil)
      (pss_cons (ps_set (i := 3) sc_L_rule.nd rfl (Or.inl rfl) (pe_op (k_addG (K := K) rfl) pe_int (pe_op op_mod (pe_callTy cr_int1 (by rfl) T.z_int (by decide +kernel) (pa_cons (pe_ix (k_ix (K := K) rfl) (pv 0) (pe_op (k_addG (K := K) rfl) (pv 1) pe_int) (fun _ _ => rfl)) pa_nil)) pe_int)))
      (pss_cons (ps_set (i := 4) sc_L_rule.nd rfl (Or.inl rfl) (pe_lst pa_nil))
      (pss_cons (ps_for PassesOwn.never rfl (pi_range1 rfl T.z_range (pa_cons (pv 3) pa_nil)) (pg_name (i := 5) sc_L_rule.nd rfl (Or.inl rfl))
      (pss_cons (ps_set (i := 6) sc_L_rule.nd rfl (Or.inl rfl) (pe_lst pa_nil))
      (pss_cons (ps_for PassesOwn.never rfl (pi_range1 rfl T.z_range (pa_cons (pv 2) pa_nil)) (pg_name (i := 7) sc_L_rule.nd rfl (Or.inl rfl))
      (pss_cons (ps_set (i := 8) sc_L_rule.nd rfl (Or.inl rfl) (pe_ix (k_ix (K := K) rfl) (pv 0) (pe_op (k_addG (K := K) rfl) (pe_op (k_addG (K := K) rfl) (pe_op (k_addG (K := K) rfl) (pv 1) pe_int) (pe_op op_mul (pv 5) (pv 2))) (pv 7)) (fun _ _ => rfl)))
      (pss_one (ps_expr (k_bm (K := K) rfl PySem.F.plainAttrs_list PySem.F.slot_list_append PySem.F.type_list_append mt_append (pv 6) (pa_cons (pe_ix (k_ix (K := K) rfl) (pe_lst (pa_cons (pe_op op_mod (pe_callTy cr_int1 (by rfl) T.z_int (by decide +kernel) (pa_cons (pv 8) pa_nil)) (pv 3)) (pa_cons (pe_op op_mod (pe_callTy cr_int1 (by rfl) T.z_int (by decide +kernel) (pa_cons (pv 8) pa_nil)) (pv 3)) (pa_cons (pe_op op_mod (pe_callTy cr_int1 (by rfl) T.z_int (by decide +kernel) (pa_cons (pv 8) pa_nil)) (pv 3)) (pa_cons pe_non pa_nil))))) (pe_op op_mod (pe_callTy cr_int1 (by rfl) T.z_int (by decide +kernel) (pa_cons (pe_op op_fdiv (pv 8) pe_int) pa_nil)) pe_int) (fun _ _ => rfl)) pa_nil))))))
      (pss_one (ps_expr (k_bm (K := K) rfl PySem.F.plainAttrs_list PySem.F.slot_list_append PySem.F.type_list_append mt_append (pv 4) (pa_cons (pe_callTy (k_tupS (K := K) rfl) (by rfl) T.z_tuple (by decide +kernel) (pa_cons (pv 6) pa_nil)) pa_nil)))))))
      (pss_one (ps_ret (pe_tup (pa_cons (pe_op op_mod (pe_callTy cr_int1 (by rfl) T.z_int (by decide +kernel) (pa_cons (pe_ix (k_ix (K := K) rfl) (pv 0) (pe_op (k_addG (K := K) rfl) (pv 1) pe_int) (fun _ _ => rfl)) pa_nil)) (pv 3)) (pa_cons (pe_callTy (k_tupS (K := K) rfl) (by rfl) T.z_tuple (by decide +kernel) (pa_cons (pv 4) pa_nil)) pa_nil))))))))), ?_⟩
    refine go_start (σ' := [some (.ref p), some (.int m), some (.int L), none, none, none, none, none, none]) rfl ?_
    try dsimp only [cxOf, Cx.nox, Cx.wish]
    walk_at "go"
    refine w_iteD (fun h0 => ?_) (fun h0 => ?_)
    · walk_at "go"
      exact k none _ _ trivial (Same.refl _) rfl
    walk_at "go"
    obtain ⟨n, hne, hn0, hn1⟩ : ∃ n : Nat, 1 + nth ns (m + 1) % 6 = (n : Int) ∧ 1 ≤ n ∧ n ≤ 6 := ⟨(1 + nth ns (m + 1) % 6).toNat, by omega, by omega, by omega⟩
    rw [hne]
    have hmod : ∀ z : Int, 0 ≤ z % (n : Int) ∧ z % (n : Int) < n := fun z => ⟨Int.emod_nonneg _ (by omega), Int.emod_lt_of_pos _ (by omega)⟩
    refine ⟨Nat.zero_le _, fun D hD => ?_⟩
    have F1 : Filled (RRw false K) H (upd H D (.lst [])) D (rowsV []) := Filled.nil hD
    generalize upd H D (.lst []) = H1 at F1 ⊢
    walk_at "go"
    refine l_range (fun i σ H' => ∃ (y5 y6 y7 y8 : Option V) (st : Steps), σ = [some (.ref p), some (.int m), some (.int L), some (.int n), some (.ref D), y5, y6, y7, y8] ∧ st.length = i ∧ (∀ r ∈ st, r.length = L) ∧ (∀ r ∈ st, ∀ q : Int, some q ∈ r → 0 ≤ q ∧ q < n) ∧ Filled (RRw false K) H H' D (rowsV st))
      (by omega) (by omega) ⟨none, none, none, none, [], rfl, rfl, List.forall_mem_nil _, List.forall_mem_nil _, F1⟩ ?_ ?_
    · rintro i σ H2 hi ⟨y5, y6, y7, y8, st, rfl, hst, hrow, hsm, F2⟩
      walk_at "go"
      refine ⟨Nat.zero_le _, fun R hR => ?_⟩
      have s3 := Same.new (o := .lst []) hR
      have e3 : (upd H2 R (.lst [])) R = some (.lst (([] : List (Option Int)).map vO)) := upd_same
      generalize upd H2 R (.lst []) = H3 at s3 e3 ⊢
      walk_at "go"
      refine l_range (fun j σ H' => ∃ (y7 y8 : Option V) (r : List (Option Int)), σ = [some (.ref p), some (.int m), some (.int L), some (.int n), some (.ref D), some (.int (i : Nat)), some (.ref R), y7, y8] ∧ r.length = j ∧ (∀ q : Int, some q ∈ r → 0 ≤ q ∧ q < n) ∧ Same H2 H' ∧ H' R = some (.lst (r.map vO)))
        (by omega) (by omega) ⟨_, _, [], rfl, rfl, fun q h => absurd h List.not_mem_nil, s3, e3⟩ ?_ ?_
      · rintro j σ H4 hj ⟨y7, y8, r, rfl, hr', hq, s4, e4⟩
        have hL4 := (F2.same.trans s4) _ _ hL
        have hij : ((i : Nat) : Int) * (L : Nat) ≤ 60 := by
          have h1 : i * L ≤ 5 * 12 := Nat.mul_le_mul (by omega) hL1
          have h2 : ((i * L : Nat) : Int) = ((i : Nat) : Int) * (L : Nat) := Int.natCast_mul ..
          omega
        have hij0 : 0 ≤ ((i : Nat) : Int) * (L : Nat) := Int.mul_nonneg (by omega) (by omega)
        walk_at "go"
        have h2 := hmod (nth ns (m + 3 + ((i : Nat) : Int) * (L : Nat) + ((j : Nat) : Int)))
        generalize nth ns (m + 3 + ((i : Nat) : Int) * (L : Nat) + ((j : Nat) : Int)) = sd at h2 ⊢
        refine ⟨by show 4 ≤ sizeLine; decide, fun p5 hp5 => ?_⟩
        have s5 := Same.new (o := .lst [.int (sd % (n : Int)), .int (sd % (n : Int)), .int (sd % (n : Int)), .non]) hp5
        have e5 : (upd H4 p5 (.lst [.int (sd % (n : Int)), .int (sd % (n : Int)), .int (sd % (n : Int)), .non])) p5 = some (.lst [.int (sd % (n : Int)), .int (sd % (n : Int)), .int (sd % (n : Int)), .non]) := upd_same
        generalize upd H4 p5 (.lst [.int (sd % (n : Int)), .int (sd % (n : Int)), .int (sd % (n : Int)), .non]) = H5 at s5 e5 ⊢
        obtain ⟨o, ho, ho2⟩ : ∃ o : Option Int, atI [V.int (sd % (n : Int)), .int (sd % (n : Int)), .int (sd % (n : Int)), .non] (sd / 8 % 4) = some (vO o) ∧ ∀ q, o = some q → 0 ≤ q ∧ q < (n : Int) := by
          have h : sd / 8 % 4 = 0 ∨ sd / 8 % 4 = 1 ∨ sd / 8 % 4 = 2 ∨ sd / 8 % 4 = 3 := by omega
          rcases h with h | h | h | h <;> rw [h]
          · exact ⟨some _, rfl, fun q e => by cases e; exact h2⟩
          · exact ⟨some _, rfl, fun q e => by cases e; exact h2⟩
          · exact ⟨some _, rfl, fun q e => by cases e; exact h2⟩
          · exact ⟨none, rfl, fun q e => by cases e⟩
        walk_at "go"
        refine w_ix (Sq.lst e5) ho ?_
        walk_at "go"
        refine w_append (s5 _ _ e4) (line_of1 (by rw [List.length_map]; omega)) ?_
        walk_at "go"
        refine ⟨_, _, r ++ [o], rfl, by rw [List.length_append, hr']; rfl, fun q hq' => ?_, Same.mut (s4.trans s5) hR, by rw [upd_same, List.map_append]; rfl⟩
        rcases List.mem_append.mp hq' with h | h
        · exact hq q h
        · exact ho2 q (List.mem_singleton.mp h).symm
      · rintro σ H4 ⟨y7, y8, r, rfl, hr', hq, s4, e4⟩
        obtain ⟨ys0, e0, _⟩ := (F2.mono RRw.mono s4).at_
        walk_at "go"
        refine w_tupL (Sq.lst e4) fun t5 ht5 => ?_
        have s5 := Same.new (o := .tup (r.map vO)) ht5
        have e5 : (upd H4 t5 (.tup (r.map vO))) t5 = some (.tup (r.map vO)) := upd_same
        generalize upd H4 t5 (.tup (r.map vO)) = H5 at s5 e5 ⊢
        have F5 := F2.mono RRw.mono (s4.trans s5)
        obtain ⟨ysx, ex, _, _⟩ := id F5.at_
        obtain ⟨ys6, e6, hl6, F6⟩ := F5.push (d := r.map vO) (y := .ref t5) (RRw.tup _ _ _ _ (NTup.lst ex) ⟨t5, rfl, Sq.tup e5⟩)
        walk_at "go"
        refine w_append e6 (line_of1 (by rw [hl6, rowsV_len]; omega)) ?_
        walk_at "go"
        refine ⟨_, _, _, _, st ++ [r], rfl, by rw [List.length_append, hst]; rfl, fun x hx => ?_, fun x hx q hq' => ?_, ?_⟩
        · rcases List.mem_append.mp hx with h | h
          · exact hrow x h
          · rw [List.mem_singleton.mp h]; omega
        · rcases List.mem_append.mp hx with h | h
          · exact hsm x h q hq'
          · rw [List.mem_singleton.mp h] at hq'; exact hq q hq'
        · have e : rowsV (st ++ [r]) = rowsV st ++ [r.map vO] := by unfold rowsV; rw [List.map_append]; rfl
          rw [e]
          exact F6
    · rintro σ H2 ⟨y5, y6, y7, y8, st, rfl, hst, hrow, hsm, F2⟩
      have hL2 := F2.same _ _ hL
      obtain ⟨_, ys, ey, hys, hyl, hyr⟩ := F2.seq RRw.mono (K := K)
      cases ey
      walk_at "go"
      refine w_tupL hys fun t3 ht3 => ?_
      have s3 := Same.new (o := .tup ys) ht3
      have e3 : RRows false false K (upd H2 t3 (.tup ys)) (.ref t3) (rowsV st) := ⟨t3, ys, rfl, Sq.tup upd_same, hyl, fun i y d a b => RRw.mono _ _ _ _ s3 (hyr i y d a b)⟩
      generalize upd H2 t3 (.tup ys) = H3 at s3 e3 ⊢
      walk_at "go"
      refine ⟨by show 2 ≤ sizeLine; decide, fun q4 hq4 => ?_⟩
      have s4 := Same.new (o := .tup [.int (nth ns (m + 2) % (n : Int)), .ref t3]) hq4
      exact k (some (nth ns (m + 2) % (n : Int), st)) _ _ ⟨n, ⟨by omega, hrow, hsm, hn0, by omega, hL0, by omega⟩, (hmod _).1, (hmod _).2⟩ ((F2.same.trans s3).trans s4) ⟨q4, .ref t3, rfl, Sq.tup upd_same, RRows.mono _ _ _ _ s4 e3⟩

/-! ### stops, tapes, asks drawn -/
def sp_L_stops (K : PySem.W.Frag) : Sp := fun vs H Q _ => ∃ (p : Addr) (ns : List Int) (m : Int) (L : Nat), vs = [.ref p, .int m, .int L] ∧ H p = some (.lst (ns.map V.int)) ∧ (ns.length : Int) ≥ m + 30 ∧ 0 ≤ m ∧ 1 ≤ L ∧ L ≤ 12 ∧
  ∀ ss v' H', ss.length ≤ 4 → (∀ s ∈ ss, 1 ≤ s.length ∧ s.length ≤ 10 ∧ ∀ l ∈ s, l < L) → Same H H' → RRows false false K H' v' (stopsV ss) → Q v' H'
theorem ok_L_stops (T : Txt K mg) : FnOk P w K mg base CX0 1 T.a_L_stops T.d_L_stops ["_law_numbers_here", "_law_k", "_law_letters"] (sp_L_stops K) := by
  refine T.F_L_stops.ok sc_L_stops (fun vs H Q E h => ?_) (fun cdv A outer s H vs Q E hr h => ?_)
  · obtain ⟨_, _, _, _, rfl, _⟩ := h
    rfl
  · obtain ⟨p, ns, m, L, rfl, hL, hnl, hm0, hL0, hL1, k⟩ := h
    have hmod : ∀ z : Int, 0 ≤ z % (L : Int) ∧ z % (L : Int) < L := fun z => ⟨Int.emod_nonneg _ (by omega), Int.emod_lt_of_pos _ (by omega)⟩
    refine ⟨_, (pss_cons (ps_set (i := 3) sc_L_stops.nd rfl (Or.inl rfl) (pe_lst pa_nil))
      (pss_cons (ps_for PassesOwn.never rfl (pi_range1 rfl T.z_range (pa_cons (pe_ix (k_ix (K := K) rfl) (pe_lst (pa_cons pe_int (pa_cons pe_int (pa_cons pe_int (pa_cons pe_int (pa_cons pe_int (pa_cons pe_int pa_nil))))))) (pe_op op_mod (pe_callTy cr_int1 (by rfl) T.z_int (by decide +kernel) (pa_cons (pe_ix (k_ix (K := K) rfl) (pv 0) (pv 1) (fun _ _ => rfl)) pa_nil)) pe_int) (fun _ _ => rfl)) pa_nil)) (pg_name (i := 4) sc_L_stops.nd rfl (Or.inl rfl))
      (pss_cons (ps_set (i := 5) sc_L_stops.nd rfl (Or.inl rfl) (pe_lst pa_nil))
      (pss_cons (ps_for PassesOwn.never rfl (pi_range1 rfl T.z_range (pa_cons (pe_op (k_addG (K := K) rfl) pe_int (pe_op op_mod (pe_callTy cr_int1 (by rfl) T.z_int (by decide +kernel) (pa_cons (pe_ix (k_ix (K := K) rfl) (pv 0) (pe_op (k_addG (K := K) rfl) (pe_op (k_addG (K := K) rfl) (pv 1) pe_int) (pe_op op_mul pe_int (pv 4))) (fun _ _ => rfl)) pa_nil)) pe_int)) pa_nil)) (pg_name (i := 6) sc_L_stops.nd rfl (Or.inl rfl))
      (pss_one (ps_expr (k_bm (K := K) rfl PySem.F.plainAttrs_list PySem.F.slot_list_append PySem.F.type_list_append mt_append (pv 5) (pa_cons (pe_op op_mod (pe_callTy cr_int1 (by rfl) T.z_int (by decide +kernel) (pa_cons (pe_ix (k_ix (K := K) rfl) (pv 0) (pe_op (k_addG (K := K) rfl) (pe_op (k_addG (K := K) rfl) (pe_op (k_addG (K := K) rfl) (pv 1) pe_int) (pe_op op_mul pe_int (pv 4))) (pv 6)) (fun _ _ => rfl)) pa_nil)) (pv 2)) pa_nil)))))
      (pss_one (ps_expr (k_bm (K := K) rfl PySem.F.plainAttrs_list PySem.F.slot_list_append PySem.F.type_list_append mt_append (pv 3) (pa_cons (pe_callTy (k_tupS (K := K) rfl) (by rfl) T.z_tuple (by decide +kernel) (pa_cons (pv 5) pa_nil)) pa_nil)))))))
      (pss_one (ps_ret (pe_callTy (k_tupS (K := K) rfl) (by rfl) T.z_tuple (by decide +kernel) (pa_cons (pv 3) pa_nil)))))), ?_⟩
    refine go_start (σ' := [some (.ref p), some (.int m), some (.int L), none, none, none, none]) rfl ?_
    try dsimp only [cxOf, Cx.nox, Cx.wish]
    walk_at "go"
    refine ⟨Nat.zero_le _, fun D hD => ?_⟩
    have F1 : Filled (RRw false K) H (upd H D (.lst [])) D (stopsV []) := Filled.nil hD
    generalize upd H D (.lst []) = H1 at F1 ⊢
    have hL1' := F1.same _ _ hL
    walk_at "go"
    refine ⟨by show 6 ≤ sizeLine; decide, fun p2 hp2 => ?_⟩
    have s2 := Same.new (o := .lst [.int 0, .int 0, .int 1, .int 2, .int 3, .int 4]) hp2
    have e2 : (upd H1 p2 (.lst [.int 0, .int 0, .int 1, .int 2, .int 3, .int 4])) p2 = some (.lst (([0, 0, 1, 2, 3, 4] : List Int).map V.int)) := upd_same
    have F2 := F1.mono RRw.mono s2
    generalize upd H1 p2 (.lst [.int 0, .int 0, .int 1, .int 2, .int 3, .int 4]) = H2 at s2 e2 F2 ⊢
    have hL2 := F2.same _ _ hL
    walk_at "go"
    have hc : 0 ≤ nth [0, 0, 1, 2, 3, 4] (nth ns m % 6) ∧ nth [0, 0, 1, 2, 3, 4] (nth ns m % 6) ≤ 4 := by
      have hm := nth_mem (ns := [0, 0, 1, 2, 3, 4]) (i := nth ns m % 6) (by omega) (by show _ < (6 : Int); omega)
      simp only [List.mem_cons, List.not_mem_nil, or_false] at hm
      omega
    generalize nth [0, 0, 1, 2, 3, 4] (nth ns m % 6) = c at hc ⊢
    clear F1 e2
    refine l_range (fun i σ H' => ∃ (y4 y5 y6 : Option V) (ss : List (List Nat)), σ = [some (.ref p), some (.int m), some (.int L), some (.ref D), y4, y5, y6] ∧ ss.length = i ∧ (∀ s ∈ ss, 1 ≤ s.length ∧ s.length ≤ 10 ∧ ∀ l ∈ s, l < L) ∧ Filled (RRw false K) H H' D (stopsV ss))
      (by omega) (by omega) ⟨none, none, none, [], rfl, rfl, List.forall_mem_nil _, F2⟩ ?_ ?_
    · rintro i σ H3 hi ⟨y4, y5, y6, ss, rfl, hss, hok, F3⟩
      walk_at "go"
      refine ⟨Nat.zero_le _, fun R hR => ?_⟩
      have s4 := Same.new (o := .lst []) hR
      have e4 : (upd H3 R (.lst [])) R = some (.lst ((natI []).map V.int)) := upd_same
      generalize upd H3 R (.lst []) = H4 at s4 e4 ⊢
      have hL4 := (F3.same.trans s4) _ _ hL
      walk_at "go"
      refine l_range (fun j σ H' => ∃ (y6 : Option V) (r : List Nat), σ = [some (.ref p), some (.int m), some (.int L), some (.ref D), some (.int (i : Nat)), some (.ref R), y6] ∧ r.length = j ∧ (∀ l ∈ r, l < L) ∧ Same H3 H' ∧ H' R = some (.lst ((natI r).map V.int)))
        (by omega) (by omega) ⟨_, [], rfl, rfl, List.forall_mem_nil _, s4, e4⟩ ?_ ?_
      · rintro j σ H5 hj ⟨y6, r, rfl, hr', hrl, s5, e5⟩
        have hL5 := (F3.same.trans s5) _ _ hL
        walk_at "go"
        have h2 := hmod (nth ns (m + 2 + 5 * ((i : Nat) : Int) + ((j : Nat) : Int)))
        generalize nth ns (m + 2 + 5 * ((i : Nat) : Int) + ((j : Nat) : Int)) % (L : Int) = z at h2 ⊢
        obtain ⟨l, rfl⟩ : ∃ l : Nat, z = (l : Int) := ⟨z.toNat, by omega⟩
        refine w_append e5 (line_of1 (by rw [List.length_map, natI_len]; omega)) ?_
        walk_at "go"
        refine ⟨_, r ++ [l], rfl, by rw [List.length_append, hr']; rfl, fun l' hl' => ?_, Same.mut s5 hR, by rw [upd_same, natI_snoc]⟩
        rcases List.mem_append.mp hl' with h | h
        · exact hrl l' h
        · rw [List.mem_singleton.mp h]; omega
      · rintro σ H5 ⟨y6, r, rfl, hr', hrl, s5, e5⟩
        obtain ⟨ys0, e0, _⟩ := (F3.mono RRw.mono s5).at_
        walk_at "go"
        refine w_tupL (Sq.lst e5) fun t6 ht6 => ?_
        have s6 := Same.new (o := .tup ((natI r).map V.int)) ht6
        have e6 : (upd H5 t6 (.tup ((natI r).map V.int))) t6 = some (.tup ((natI r).map V.int)) := upd_same
        generalize upd H5 t6 (.tup ((natI r).map V.int)) = H6 at s6 e6 ⊢
        have F6 := F3.mono RRw.mono (s5.trans s6)
        obtain ⟨ysx, ex, _, _⟩ := id F6.at_
        obtain ⟨ys7, e7, hl7, F7⟩ := F6.push (d := (natI r).map V.int) (y := .ref t6) (RRw.tup _ _ _ _ (NTup.lst ex) ⟨t6, rfl, Sq.tup e6⟩)
        walk_at "go"
        refine w_append e7 (line_of1 (by rw [hl7, stopsV_len]; omega)) ?_
        walk_at "go"
        refine ⟨_, _, _, ss ++ [r], rfl, by rw [List.length_append, hss]; rfl, fun x hx => ?_, ?_⟩
        · rcases List.mem_append.mp hx with h | h
          · exact hok x h
          · rw [List.mem_singleton.mp h]
            exact ⟨by omega, by omega, hrl⟩
        · have e : stopsV (ss ++ [r]) = stopsV ss ++ [(natI r).map V.int] := by unfold stopsV; rw [List.map_append]; rfl
          rw [e]
          exact F7
    · rintro σ H3 ⟨y4, y5, y6, ss, rfl, hss, hok, F3⟩
      obtain ⟨_, ys, ey, hys, hyl, hyr⟩ := F3.seq RRw.mono (K := K)
      cases ey
      walk_at "go"
      refine w_tupL hys fun t3 ht3 => ?_
      have s3 := Same.new (o := .tup ys) ht3
      walk_at "go"
      exact k ss _ _ (by omega) hok (F3.same.trans s3) ⟨t3, ys, rfl, Sq.tup upd_same, hyl, fun i y d a b => RRw.mono _ _ _ _ s3 (hyr i y d a b)⟩
def sp_L_tape (K : PySem.W.Frag) : Sp := fun vs H Q _ => ∃ (p : Addr) (ns : List Int) (m : Int), vs = [.ref p, .int m] ∧ H p = some (.lst (ns.map V.int)) ∧ (ns.length : Int) ≥ m + 40 ∧ 0 ≤ m ∧ (∀ x ∈ ns, (0 : Int) ≤ x) ∧
  ∀ tape v' H', tape.length ≤ 12 → (∀ t ∈ tape, (0 : Int) ≤ t ∧ ((∀ x ∈ ns, x < 1000) → t < 1000000)) → Same H H' → RVec false K H' v' tape → Q v' H'
theorem ok_L_tape (T : Txt K mg) : FnOk P w K mg base CX0 1 T.a_L_tape T.d_L_tape ["_law_numbers_here", "_law_k"] (sp_L_tape K) := by
  refine T.F_L_tape.ok sc_L_tape (fun vs H Q E h => ?_) (fun cdv A outer s H vs Q E hr h => ?_)
  · obtain ⟨_, _, _, rfl, _⟩ := h
    rfl
  · obtain ⟨p, ns, m, rfl, hL, hnl, hm0, hnn, k⟩ := h
    have nn : ∀ i : Int, 0 ≤ i → i < ns.length → 0 ≤ nth ns i := fun i h0 h1 => hnn _ (nth_mem h0 h1)
    refine ⟨_, (pss_cons (ps_set (i := 2) sc_L_tape.nd rfl (Or.inl rfl) (pe_lst pa_nil))
      (pss_cons (ps_for PassesOwn.never rfl (pi_range1 rfl T.z_range (pa_cons (pe_ix (k_ix (K := K) rfl) (pe_lst (pa_cons pe_int (pa_cons pe_int (pa_cons pe_int (pa_cons pe_int (pa_cons (pe_op op_mod (pe_callTy cr_int1 (by rfl) T.z_int (by decide +kernel) (pa_cons (pe_ix (k_ix (K := K) rfl) (pv 0) (pv 1) (fun _ _ => rfl)) pa_nil)) pe_int) pa_nil)))))) (pe_op op_mod (pe_callTy cr_int1 (by rfl) T.z_int (by decide +kernel) (pa_cons (pe_op op_fdiv (pe_ix (k_ix (K := K) rfl) (pv 0) (pv 1) (fun _ _ => rfl)) pe_int) pa_nil)) pe_int) (fun _ _ => rfl)) pa_nil)) (pg_name (i := 3) sc_L_tape.nd rfl (Or.inl rfl))
      (pss_one (ps_expr (k_bm (K := K) rfl PySem.F.plainAttrs_list PySem.F.slot_list_append PySem.F.type_list_append mt_append (pv 2) (pa_cons (pe_op (k_addG (K := K) rfl) (pe_op op_mul (pe_ix (k_ix (K := K) rfl) (pv 0) (pe_op (k_addG (K := K) rfl) (pe_op (k_addG (K := K) rfl) (pv 1) pe_int) (pe_op op_mul pe_int (pv 3))) (fun _ _ => rfl)) pe_int) (pe_ix (k_ix (K := K) rfl) (pv 0) (pe_op (k_addG (K := K) rfl) (pe_op (k_addG (K := K) rfl) (pv 1) pe_int) (pe_op op_mul pe_int (pv 3))) (fun _ _ => rfl))) pa_nil)))))
      (pss_one (ps_ret (pe_callTy (k_tupS (K := K) rfl) (by rfl) T.z_tuple (by decide +kernel) (pa_cons (pv 2) pa_nil)))))), ?_⟩
    refine go_start (σ' := [some (.ref p), some (.int m), none, none]) rfl ?_
    try dsimp only [cxOf, Cx.nox, Cx.wish]
    walk_at "go"
    refine ⟨Nat.zero_le _, fun D hD => ?_⟩
    have s1 := Same.new (o := .lst []) hD
    have e1 : (upd H D (.lst [])) D = some (.lst (([] : List Int).map V.int)) := upd_same
    generalize upd H D (.lst []) = H1 at s1 e1 ⊢
    have hL1 := s1 _ _ hL
    walk_at "go"
    refine ⟨by show 5 ≤ sizeLine; decide, fun p2 hp2 => ?_⟩
    have s2 := Same.new (o := .lst [.int 0, .int 0, .int 1, .int 2, .int (nth ns m % 13)]) hp2
    have e2 : (upd H1 p2 (.lst [.int 0, .int 0, .int 1, .int 2, .int (nth ns m % 13)])) p2 = some (.lst (([0, 0, 1, 2, nth ns m % 13] : List Int).map V.int)) := upd_same
    have e12 := s2 _ _ e1
    generalize upd H1 p2 (.lst [.int 0, .int 0, .int 1, .int 2, .int (nth ns m % 13)]) = H2 at s2 e2 e12 ⊢
    have s02 := s1.trans s2
    have hL2 := s02 _ _ hL
    walk_at "go"
    have hc : 0 ≤ nth [0, 0, 1, 2, nth ns m % 13] (nth ns m / 13 % 5) ∧ nth [0, 0, 1, 2, nth ns m % 13] (nth ns m / 13 % 5) ≤ 12 := by
      have hm := nth_mem (ns := [0, 0, 1, 2, nth ns m % 13]) (i := nth ns m / 13 % 5) (by omega) (by show _ < (5 : Int); omega)
      simp only [List.mem_cons, List.not_mem_nil, or_false] at hm
      omega
    generalize nth [0, 0, 1, 2, nth ns m % 13] (nth ns m / 13 % 5) = c at hc ⊢
    clear e2
    refine l_range (fun i σ H' => ∃ (y3 : Option V) (tape : List Int), σ = [some (.ref p), some (.int m), some (.ref D), y3] ∧ tape.length = i ∧ (∀ t ∈ tape, (0 : Int) ≤ t ∧ ((∀ x ∈ ns, x < 1000) → t < 1000000)) ∧ Same H H' ∧ H' D = some (.lst (tape.map V.int)))
      (by omega) (by omega) ⟨none, [], rfl, rfl, List.forall_mem_nil _, s02, e12⟩ ?_ ?_
    · rintro i σ H3 hi ⟨y3, tape, rfl, htl, htn, s3, e3⟩
      have hL3 := s3 _ _ hL
      have n1 := nn (m + 1 + 2 * ((i : Nat) : Int)) (by omega) (by omega)
      have n2 := nn (m + 2 + 2 * ((i : Nat) : Int)) (by omega) (by omega)
      walk_at "go"
      refine w_append e3 (line_of1 (by rw [List.length_map]; omega)) ?_
      walk_at "go"
      refine ⟨_, tape ++ [_], rfl, by rw [List.length_append, htl]; rfl, fun t ht => ?_, Same.mut s3 hD, by rw [upd_same, List.map_append]; rfl⟩
      rcases List.mem_append.mp ht with h | h
      · exact htn t h
      · rw [List.mem_singleton.mp h]
        exact ⟨by omega, fun hb => by
          have u1 := hb _ (nth_mem (ns := ns) (i := m + 1 + 2 * ((i : Nat) : Int)) (by omega) (by omega))
          have u2 := hb _ (nth_mem (ns := ns) (i := m + 2 + 2 * ((i : Nat) : Int)) (by omega) (by omega))
          omega⟩
    · rintro σ H3 ⟨y3, tape, rfl, htl, htn, s3, e3⟩
      walk_at "go"
      refine w_tupL (Sq.lst e3) fun t4 ht4 => ?_
      walk_at "go"
      exact k tape _ _ (by omega) htn (s3.trans (Same.new ht4)) ⟨t4, rfl, Sq.tup upd_same⟩
def RDrawn (K : PySem.W.Frag) (CA CR : Addr) : Rep AskD := fun H v ak => ∃ p q a pp sp tp rv, v = .ref p ∧ Sq false K H p [.ref q, .ref a] ∧ Sq false K H q [.ref pp, .int ak.most, .ref sp, .ref tp, rv] ∧ Sq false K H pp ((natI ak.prompt).map V.int) ∧ RRows false false K H (.ref sp) (stopsV ak.stops) ∧ Sq false K H tp (ak.tape.map V.int) ∧ RRuT K H rv ak.rule ∧ IsAsk K CA CR H a ak
theorem RDrawn.mono {K : PySem.W.Frag} {CA CR : Addr} : RMono (RDrawn K CA CR) := fun _ _ _ _ s ⟨p, q, a, pp, sp, tp, rv, e, h1, h2, h3, h4, h5, h6, h7⟩ => ⟨p, q, a, pp, sp, tp, rv, e, s.sq h1, s.sq h2, s.sq h3, RRows.mono _ _ _ _ s h4, s.sq h5, RRuT.mono _ _ _ _ s h6, ask_same s h7⟩
theorem w_makeK {C : Addr} {n m : Nat} {sp : Sp} {gV : List V → List V → List V} {E : XK} {t tk : TA} {σ : L2.St} {H : Hp} {Q : VK} (q : t σ H fun vs H1 => tk σ H1 fun zs H2 => vs.length = n ∧ zs.length = m ∧ ∀ x dx, H2 x = none → H2 dx = none → dx ≠ x →
  sp (gV (.ref x :: vs) zs) (upd (upd H2 dx (.own x)) x (.ins C dx [])) (fun v H3 => v = .non ∧ Q (.ref x) H3) E) : tMakeK C n m sp gV E t tk σ H Q := q


/-! ### letters drawn -/
def letP (ns : List Int) (L o : Int) (n : Nat) : List Nat := (List.range n).map fun k => (nth ns (o + ((k : Nat) : Int)) % L).toNat
theorem letP_len (ns : List Int) (L o : Int) (n : Nat) : (letP ns L o n).length = n := by unfold letP; rw [List.length_map, List.length_range]
theorem letP_lt {ns : List Int} {L : Nat} {o : Int} {n : Nat} (hL : 0 < L) : ∀ l ∈ letP ns L o n, l < L := fun l hl => by
  obtain ⟨x, _, e⟩ := List.mem_map.mp hl
  have h1 : 0 ≤ nth ns (o + ((x : Nat) : Int)) % (L : Int) := Int.emod_nonneg _ (by omega)
  have h2 : nth ns (o + ((x : Nat) : Int)) % (L : Int) < L := Int.emod_lt_of_pos _ (by omega)
  omega
theorem letP_nth {ns : List Int} {L : Nat} {o : Int} {n i : Nat} (hL : 0 < L) (hi : i < n) : nth (natI (letP ns L o n)) ((i : Nat) : Int) = nth ns (o + ((i : Nat) : Int)) % (L : Int) := by
  have h1 : 0 ≤ nth ns (o + ((i : Nat) : Int)) % (L : Int) := Int.emod_nonneg _ (by omega)
  unfold natI letP
  rw [List.map_map, nth_nat, List.getD_eq_getElem?_getD, List.getElem?_map, List.getElem?_eq_getElem (by rw [List.length_range]; exact hi), List.getElem_range]
  exact Int.toNat_of_nonneg h1
/-- letters drawn by any rule -/
def letF (f : Int → Int) (L : Int) (n : Nat) : List Nat := (List.range n).map fun k => (f ((k : Nat) : Int) % L).toNat
theorem letF_len (f : Int → Int) (L : Int) (n : Nat) : (letF f L n).length = n := by unfold letF; rw [List.length_map, List.length_range]
theorem letF_lt {f : Int → Int} {L n : Nat} (hL : 0 < L) : ∀ l ∈ letF f L n, l < L := fun l hl => by
  obtain ⟨x, _, e⟩ := List.mem_map.mp hl
  have h1 : 0 ≤ f ((x : Nat) : Int) % (L : Int) := Int.emod_nonneg _ (by omega)
  have h2 : f ((x : Nat) : Int) % (L : Int) < L := Int.emod_lt_of_pos _ (by omega)
  omega
theorem letF_nth {f : Int → Int} {L n i : Nat} (hL : 0 < L) (hi : i < n) : nth (natI (letF f L n)) ((i : Nat) : Int) = f ((i : Nat) : Int) % (L : Int) := by
  have h1 : 0 ≤ f ((i : Nat) : Int) % (L : Int) := Int.emod_nonneg _ (by omega)
  unfold natI letF
  rw [List.map_map, nth_nat, List.getD_eq_getElem?_getD, List.getElem?_map, List.getElem?_eq_getElem (by rw [List.length_range]; exact hi), List.getElem_range]
  exact Int.toNat_of_nonneg h1

/-! ### written -/
theorem NTup_none {H : Hp} {D : Addr} (h : H D = none) : NTup (H D) := by
  unfold NTup
  rw [h]
  first | trivial | (intro xs e; cases e) | simp
theorem Filled_copy {α : Type} {R : Rep α} (ht : RTup R) {H : Hp} {D : Addr} {ys : List V} {ds : List α} (hD : H D = none) (hl : ys.length = ds.length) (hr : ∀ (i : Nat) y d, ys[i]? = some y → ds[i]? = some d → R H y d) : Filled R H (upd H D (.lst ys)) D ds :=
  ⟨hD, Same.new hD, ys, upd_same, hl, fun i y d h1 h2 => by
    rw [hide_upd]
    exact ht _ _ _ _ (NTup_none hD) (hr i y d h1 h2)⟩
def wAt (nd : NetD) (ls : List Nat) : List Int := lastW (rowsD nd ls [])
theorem wAt_ok {nd : NetD} {w : Nat} (ok : NetOk nd w) {ls : List Nat} (h0 : 0 < ls.length) : (wAt nd ls).length = nd.out.length ∧ ∀ x ∈ wAt nd ls, 1 ≤ x ∧ x ≤ 97 := by
  have e : ls = ls.dropLast ++ [ls.getLast (List.ne_nil_of_length_pos h0)] := (List.dropLast_concat_getLast _).symm
  unfold wAt lastW
  rw [e, rowsD_snoc, List.getLastD_concat]
  unfold rowD
  refine ⟨List.length_map .., fun x hx => ?_⟩
  obtain ⟨v, _, rfl⟩ := List.mem_map.mp hx
  have hp := ok.p2
  have hp2 := ok.p97
  have h1 := Int.emod_nonneg (dot v (lastSt nd (rowsD nd ls.dropLast []) (ls.getLast (List.ne_nil_of_length_pos h0))).2) (show nd.p ≠ 0 by omega)
  have h2 := Int.emod_lt_of_pos (dot v (lastSt nd (rowsD nd ls.dropLast []) (ls.getLast (List.ne_nil_of_length_pos h0))).2) (show 0 < nd.p by omega)
  omega
theorem wAt_last {nd : NetD} {ls : List Nat} (h0 : 0 < ls.length) : ∃ r, (rowsD nd ls [])[ls.length - 1]? = some r ∧ r.2 = wAt nd ls := by
  have hlen : (rowsD nd ls []).length = ls.length := by rw [rowsD_len]; simp only [List.length_nil]; omega
  refine ⟨(rowsD nd ls []).getLastD ([], []), ?_, rfl⟩
  rw [← hlen, ← List.getLast?_eq_getElem?, List.getLastD_eq_getLast?]
  cases e : (rowsD nd ls []).getLast? with
  | none => rw [List.getLast?_eq_none_iff] at e; rw [e] at hlen; simp at hlen; omega
  | some x => rfl
theorem nextD_none {en : Option Nat} {ak : AskD} {ws : List Int} {text : List Nat} (hw : ∀ x ∈ ws, (0 : Int) ≤ x) (h : (nextD en ak ws text).2 = none) : ∃ l, l < ws.length ∧ (nextD en ak ws text).1 = text ++ [l] ∧ text.length + 1 ≠ ak.most := by
  have hlt := fun l => choice_lt (ru := ak.rule) (tape := ak.tape) (text := text) (l := l) hw
  unfold nextD at h ⊢
  cases hc : choiceD ak.rule ak.tape ws text with
  | none => rw [hc] at h; cases h
  | some l =>
    rw [hc] at h
    have hl := hlt l hc
    dsimp only at h ⊢
    by_cases h1 : en = some l
    · rw [if_pos h1] at h; cases h
    · rw [if_neg h1] at h ⊢
      by_cases h2 : 0 < stopLen (text ++ [l]) ak.stops
      · rw [if_pos h2] at h; cases h
      · rw [if_neg h2] at h ⊢
        dsimp only at h ⊢
        by_cases h3 : (text ++ [l]).length = ak.most
        · rw [if_pos h3] at h; cases h
        · refine ⟨l, hl, rfl, ?_⟩
          rw [List.length_append] at h3
          exact h3
noncomputable def goD (nd : NetD) (en : Option Nat) (ak : AskD) : Nat → List Nat → List Nat × Option Str
  | 0, text => (text, none)
  | f + 1, text => if (nextD en ak (wAt nd (ak.prompt ++ text)) text).2 = none then goD nd en ak f (nextD en ak (wAt nd (ak.prompt ++ text)) text).1 else nextD en ak (wAt nd (ak.prompt ++ text)) text
noncomputable def writtenD (nd : NetD) (en : Option Nat) (ak : AskD) : List Nat × Option Str := goD nd en ak ak.most []
theorem goD_step {nd : NetD} {en : Option Nat} {ak : AskD} {text : List Nat} (h : text.length < ak.most) : goD nd en ak (ak.most - text.length) text = if (nextD en ak (wAt nd (ak.prompt ++ text)) text).2 = none then goD nd en ak (ak.most - (text.length + 1)) (nextD en ak (wAt nd (ak.prompt ++ text)) text).1 else nextD en ak (wAt nd (ak.prompt ++ text)) text := by
  rw [show ak.most - text.length = (ak.most - (text.length + 1)) + 1 by omega]
  rfl

/-! ### written, from a text on -/
def sp_written (K : PySem.W.Frag) (C CA CR : Addr) : Sp := fun vs H Q _ => ∃ (p a bp : Addr) (nd : NetD) (en : Option Nat) (ak : AskD) (w : Nat) (b : Bool) (bg : List Nat), vs = [.ref p, .ref a, .ref bp] ∧ IsNet K C H p nd (vN en) ∧ NetOk nd w ∧ nd.out.length = nd.emb.length ∧ IsAsk K CA CR H a ak ∧ AskOk ak nd.emb.length ∧ Sq b K H bp ((natI bg).map V.int) ∧ (∀ l ∈ bg, l < nd.emb.length) ∧ bg.length < ak.most ∧
  ∀ v' H', Same H H' → RDue K H' v' (goD nd en ak (ak.most - bg.length) bg) → Q v' H'
theorem ok_written (T : Txt K mg) : FnOk P w K mg base CX0 6 T.a_written T.d_written ["net", "ask", "begun"] (sp_written K T.c_Net T.c_Ask T.c_Rule) := by
  refine T.F_written.ok sc_written (fun vs H Q E h => ?_) (fun cdv A outer s H vs Q E hr h => ?_)
  · obtain ⟨_, _, _, _, _, _, _, _, _, rfl, _⟩ := h
    rfl
  · obtain ⟨p, a, bp, nd, en, ak, wd, b, bg, rfl, hN, okN, hout, hA, ok, hB, hbg, hbm, k⟩ := h
    have cA := T.C_Ask
    have cN := T.C_Net
    have n1 := T.n_Ask_prompt
    have he12 := okN.e12
    have hpl := ok.plen
    have hmo := ok.most
    refine ⟨_, (pss_cons (ps_expr (pe_call (ok_check_letters T) (hr.mono (by decide)) (by rfl) T.g_check_letters T.F_check_letters.kp T.b_check_letters .nil pass0 (pa_cons (pv 0) (pa_cons (pv 1) (pa_cons (pv 2) pa_nil)))))
      (pss_cons (ps_set (i := 3) sc_written.nd rfl (Or.inl rfl) (pe_callTy (k_tupS (K := K) rfl) (by rfl) T.z_tuple (by decide +kernel) (pa_cons (pv 2) pa_nil)))
      (pss_cons (ps_set (i := 4) sc_written.nd rfl (Or.inl rfl) (pe_callTy (k_listS (K := K) rfl) (by rfl) T.z_list (by decide +kernel) (pa_cons (pe_call (ok_rows_of T) (hr.mono (by decide)) (by rfl) T.g_rows_of T.F_rows_of.kp T.b_rows_of .nil pass0 (pa_cons (pv 0) (pa_cons (pe_op op_catA (k_fld (K := K) rfl (pv 1) rfl) (pv 3)) pa_nil))) pa_nil)))
      (pss_cons (ps_asg (pe_call (ok_next_text T) (hr.mono (by decide)) (by rfl) T.g_next_text T.F_next_text.kp T.b_next_text .nil pass0 (pa_cons (pv 0) (pa_cons (pv 1) (pa_cons (pv 3) (pa_cons (pe_ix (k_ix (K := K) rfl) (pe_ix (k_ix (K := K) rfl) (pv 4) (pe_un un_neg pe_int) (fun _ _ => rfl)) pe_int (fun _ _ => rfl)) pa_nil))))) (k_tup (K := K) rfl rfl (pgs_cons (pg_name (i := 3) sc_written.nd rfl (Or.inl rfl)) (pgs_cons (pg_name (i := 5) sc_written.nd rfl (Or.inl rfl)) pgs_nil))))
      (pss_cons (ps_while PassesOwn.never (pt_cmpR op_isNN (pv 5) pe_non (nomark _))
      (pss_cons (ps_expr (k_bm (K := K) rfl PySem.F.plainAttrs_list PySem.F.slot_list_append PySem.F.type_list_append mt_append (pv 4) (pa_cons (pe_meth (pv 0) T.C_Net T.m_Net_row (ok_Net_row T) (hr.mono (by decide)) T.b_Net_row .nil pass0 (pa_cons (pv 4) (pa_cons (pe_ix (k_ix (K := K) rfl) (pv 3) (pe_un un_neg pe_int) (fun _ _ => rfl)) pa_nil))) pa_nil)))
      (pss_one (ps_asg (pe_call (ok_next_text T) (hr.mono (by decide)) (by rfl) T.g_next_text T.F_next_text.kp T.b_next_text .nil pass0 (pa_cons (pv 0) (pa_cons (pv 1) (pa_cons (pv 3) (pa_cons (pe_ix (k_ix (K := K) rfl) (pe_ix (k_ix (K := K) rfl) (pv 4) (pe_un un_neg pe_int) (fun _ _ => rfl)) pe_int (fun _ _ => rfl)) pa_nil))))) (k_tup (K := K) rfl rfl (pgs_cons (pg_name (i := 3) sc_written.nd rfl (Or.inl rfl)) (pgs_cons (pg_name (i := 5) sc_written.nd rfl (Or.inl rfl)) pgs_nil)))))))
      (pss_one (ps_ret (pe_tup (pa_cons (pv 3) (pa_cons (pv 5) pa_nil)))))))))), ?_⟩
    refine go_start (σ' := [some (.ref p), some (.ref a), some (.ref bp), none, none, none]) rfl ?_
    try dsimp only [cxOf, Cx.nox, Cx.wish]
    walk_at "go"
    refine ⟨p, a, bp, nd, _, ak, b, bg, rfl, hN, hA, ok, hB, hbg, by omega, fun H1 s1 => ?_⟩
    walk_at "go"
    refine w_tupAny (s1.sq hB) fun tp H2 s2 htp => ?_
    have s12 := s1.trans s2
    have hA2 := ask_same s12 hA
    obtain ⟨dx, ap, as_, at_, vr, h0, hap, _, _, _⟩ := id hA2
    unfold AskF at h0
    walk_at "go"
    refine w_catA hap htp (by rw [List.length_map, natI_len, List.length_map, natI_len]; omega) fun q3 H3 s3 hq3 => ?_
    rw [natI_catV] at hq3
    have hpb : ∀ l ∈ ak.prompt ++ bg, l < nd.emb.length := fun l h => by
      rcases List.mem_append.mp h with h | h
      · exact ok.prompt l h
      · exact hbg l h
    walk_at "go"
    refine ⟨p, nd, _, _, wd, ak.prompt ++ bg, rfl, hN.mono (s12.trans s3), okN, ⟨false, q3, rfl, hq3⟩, hpb, by rw [List.length_append]; omega, fun vR H4 s4 ⟨aR, ys, eR, hRS, hRl, hRr⟩ => ?_⟩
    subst eR
    walk_at "go"
    refine w_listS (b := false) hRS fun rl hrl => ?_
    have F5 : Filled (RRow K) H4 (upd H4 rl (.lst ys)) rl (rowsD nd (ak.prompt ++ bg) []) := by
      exact Filled_copy RRow.tup hrl hRl hRr
    generalize upd H4 rl (.lst ys) = H5 at F5 ⊢
    have s04 := (s12.trans s3).trans s4
    have htp5 : Sq false K H5 tp ((natI bg).map V.int) := (((s3.trans s4).trans F5.same)).sq htp
    have hN4 := hN.mono s04
    have hA4 := ask_same s04 hA
    clear h0 hap hRS hRl hRr hq3 htp hA2 hrl
    -- the weights of the last row
    have lastRow : ∀ (H' : Hp) (text : List Nat), Filled (RRow K) H4 H' rl (rowsD nd (ak.prompt ++ text) []) → ∃ ys y2 wp r1, H' rl = some (.lst ys) ∧ atI ys (-1) = some (.ref y2) ∧ Sq false K H' y2 [r1, .ref wp] ∧ Sq false K H' wp ((wAt nd (ak.prompt ++ text)).map V.int) := fun H' text F => by
      obtain ⟨ys, e, hl, hr⟩ := F.at_
      obtain ⟨r, hr1, hr2⟩ := wAt_last (nd := nd) (ls := ak.prompt ++ text) (by rw [List.length_append]; omega)
      have hlen : (rowsD nd (ak.prompt ++ text) []).length = (ak.prompt ++ text).length := by rw [rowsD_len]; simp only [List.length_nil]; omega
      have hpos : 0 < (ak.prompt ++ text).length := by rw [List.length_append]; omega
      have hy : ys[(ak.prompt ++ text).length - 1]? = some (ys[(ak.prompt ++ text).length - 1]'(by omega)) := List.getElem?_eq_getElem (by omega)
      obtain ⟨ay, y1, y2, e3, hy1, _, wp, e4, hy2⟩ := RRow.mono _ _ _ _ (hide_same rl H') (hr _ _ _ hy hr1)
      subst e4
      rw [hr2] at hy2
      rw [e3] at hy
      exact ⟨ys, ay, wp, y1, e, last_atV hy (by omega), hy1, hy2⟩
    have hw97 : ∀ text : List Nat, (wAt nd (ak.prompt ++ text)).length = nd.emb.length ∧ ∀ x ∈ wAt nd (ak.prompt ++ text), 1 ≤ x ∧ x ≤ 97 := fun text => by
      have h := wAt_ok okN (ls := ak.prompt ++ text) (by rw [List.length_append]; omega)
      exact ⟨by omega, h.2⟩
    walk_at "go"
    obtain ⟨ys5, y5, wp5, r5, e5, ha5, hy5, hwp5⟩ := lastRow H5 bg F5
    refine w_ix (Sq.lst e5) ha5 ?_
    walk_at "go"
    refine w_ix hy5 (atI_nat (j := 1) rfl) ?_
    walk_at "go"
    refine ⟨p, a, tp, wp5, nd, en, ak, _, bg, nd.emb.length, rfl, hN4.mono F5.same, ask_same F5.same hA4, ok, hwp5, (hw97 bg).1, fun x hx => by have := (hw97 bg).2 x hx; omega, htp5, hbg, by omega, by omega, fun v6 H6 s6 ⟨p6, t6, e6, hp6, ht6⟩ => ?_⟩
    subst e6
    have F6 := F5.mono RRow.mono s6
    refine w_pairG hp6 ?_
    walk_at "go"
    have s06 := (s04.trans F5.same).trans s6
    clear hp6 htp5 e5 ha5 hy5 hwp5 s12 s3 s4 s6 F5
    refine ⟨fun m σ H' => ∃ (prev : List Nat) (t' : Addr), m = ak.most - prev.length ∧ prev.length < ak.most ∧ (∀ l ∈ prev, l < nd.emb.length) ∧ σ = [some (.ref p), some (.ref a), some (.ref bp), some (.ref t'), some (.ref rl), some (wV (nextD en ak (wAt nd (ak.prompt ++ prev)) prev).2)] ∧
      Sq false K H' t' ((natI (nextD en ak (wAt nd (ak.prompt ++ prev)) prev).1).map V.int) ∧ Filled (RRow K) H4 H' rl (rowsD nd (ak.prompt ++ prev) []) ∧ goD nd en ak (ak.most - bg.length) bg = goD nd en ak (ak.most - prev.length) prev, ⟨ak.most - bg.length, bg, t6, rfl, hbm, hbg, rfl, ht6, F6, rfl⟩, ?_⟩
    rintro m σ H7 ⟨prev, t', rfl, hpm, hpr, rfl, ht', F7, hwr⟩
    have hnn := nextD_none (en := en) (ak := ak) (ws := wAt nd (ak.prompt ++ prev)) (text := prev) (fun x hx => by have := (hw97 prev).2 x hx; omega)
    have hst := goD_step (nd := nd) (en := en) (ak := ak) (text := prev) hpm
    rw [hst] at hwr
    clear hst
    generalize nextD en ak (wAt nd (ak.prompt ++ prev)) prev = R at ht' hnn hwr ⊢
    obtain ⟨R1, R2⟩ := R
    dsimp only at ht' hnn hwr ⊢
    have hN7 := hN4.mono F7.same
    have hA7 := ask_same F7.same hA4
    cases R2 with
    | some wd' =>
      rw [if_neg (by intro h; cases h)] at hwr
      dsimp only [wV]
      walk_at "go"
      refine ⟨by show 2 ≤ sizeLine; decide, fun q8 hq8 => ?_⟩
      have s8 := Same.new (o := .tup [.ref t', .str wd']) hq8
      refine k _ _ ((s04.trans F7.same).trans s8) ?_
      rw [hwr]
      exact ⟨q8, t', rfl, Sq.tup upd_same, s8.sq ht'⟩
    | none =>
      rw [if_pos rfl] at hwr
      dsimp only [wV]
      obtain ⟨l, hl, e1, hne⟩ := hnn rfl
      subst e1
      rw [(hw97 prev).1] at hl
      have hpr2 : ∀ l' ∈ prev ++ [l], l' < nd.emb.length := fun l' h => by
        rcases List.mem_append.mp h with h | h
        · exact hpr l' h
        · rw [List.mem_singleton.mp h]; exact hl
      have hlp : (prev ++ [l]).length = prev.length + 1 := by rw [List.length_append]; rfl
      walk_at "go"
      refine ⟨fun σ' H'' => ∃ (t'' : Addr), σ' = [some (.ref p), some (.ref a), some (.ref bp), some (.ref t''), some (.ref rl), some (wV (nextD en ak (wAt nd (ak.prompt ++ (prev ++ [l]))) (prev ++ [l])).2)] ∧
        Sq false K H'' t'' ((natI (nextD en ak (wAt nd (ak.prompt ++ (prev ++ [l]))) (prev ++ [l])).1).map V.int) ∧ Filled (RRow K) H4 H'' rl (rowsD nd (ak.prompt ++ (prev ++ [l])) []), fun σ' H'' ⟨t'', e, h1, h2⟩ => ⟨ak.most - (prev ++ [l]).length, by omega, prev ++ [l], t'', rfl, by omega, hpr2, e, h1, h2, by rw [hlp]; exact hwr⟩, ?_⟩
      obtain ⟨dxn, w1, w2, w3, w4, hn0, _⟩ := id hN7
      unfold netF at hn0
      obtain ⟨ys7, e7, hl7, _⟩ := id F7.at_
      have hlen : (rowsD nd (ak.prompt ++ prev) []).length = ak.prompt.length + prev.length := by rw [rowsD_len, List.length_append]; simp only [List.length_nil]; omega
      walk_at "go"
      refine w_ix ht' (last_atV (x := .int (l : Nat)) (n := prev.length) (by
        rw [← natI_snoc, List.getElem?_append_right (by rw [List.length_map, natI_len]; exact Nat.le_refl _), List.length_map, natI_len, Nat.sub_self]; rfl) (by rw [List.length_map, natI_len]; exact hlp)) ?_
      walk_at "go"
      refine ⟨p, nd, _, _, true, rowsD nd (ak.prompt ++ prev) [], l, wd, rfl, hN7, okN, F7.seq RRow.mono, rowsD_ok okN _ _ (fun l' hm => by
        rcases List.mem_append.mp hm with h | h
        · exact ok.prompt l' h
        · exact hpr l' h) (List.forall_mem_nil _), by omega, hl, fun v8 H8 s8 r8 => ?_⟩
      walk_at "go"
      have F8 := F7.mono RRow.mono s8
      have e8 := s8 _ _ e7
      obtain ⟨ys8, e8', hl8, F9⟩ := F8.push (d := rowD nd (rowsD nd (ak.prompt ++ prev) []) l) (RRow.tup _ _ _ _ (NTup.lst e8) r8)
      refine w_append e8' (line_of1 (by rw [hl8, hlen]; omega)) ?_
      have ht9 : Sq false K (upd H8 rl (.lst (ys8 ++ [v8]))) t' ((natI (prev ++ [l])).map V.int) := by
        obtain ⟨_, e, h⟩ := RTup.upd (R := RVec false K) RVec.tup RVec.mono (o := .lst (ys8 ++ [v8])) (NTup.lst e8') ⟨t', rfl, s8.sq ht'⟩
        cases e
        exact h
      rw [← rowsD_snoc, List.append_assoc] at F9
      generalize upd H8 rl (.lst (ys8 ++ [v8])) = H9 at F9 ht9 ⊢
      clear hn0 e7 e8 e8' F8 F7 hN7 hA7 ht' s8 r8
      have hN9 := hN4.mono F9.same
      have hA9 := ask_same F9.same hA4
      obtain ⟨ys9, y9, wp9, r9, e9, ha9, hy9, hwp9⟩ := lastRow H9 (prev ++ [l]) F9
      walk_at "go"
      refine w_ix (Sq.lst e9) ha9 ?_
      walk_at "go"
      refine w_ix hy9 (atI_nat (j := 1) rfl) ?_
      walk_at "go"
      refine ⟨p, a, t', wp9, nd, en, ak, _, prev ++ [l], nd.emb.length, rfl, hN9, hA9, ok, hwp9, (hw97 (prev ++ [l])).1, fun x hx => by have := (hw97 (prev ++ [l])).2 x hx; omega, ht9, hpr2, by omega, by omega, fun v10 H10 s10 ⟨p10, t10, e10, hp10, ht10⟩ => ?_⟩
      subst e10
      refine w_pairG hp10 ?_
      walk_at "go"
      exact ⟨t10, rfl, ht10, F9.mono RRow.mono s10⟩
def sp_writtenB (K : PySem.W.Frag) (C CA CR CL : Addr) : Sp := fun vs H _ E => ∃ (p a bp : Addr) (nd : NetD) (e : V) (av : AskV) (b : Bool) (bg : List V), vs = [.ref p, .ref a, .ref bp] ∧ IsNet K C H p nd e ∧ IsAskV K CA CR H a av ∧ Sq b K H bp bg ∧ av.stops.length ≤ 100 ∧ (∀ r ∈ rowsOf av bg, ∀ y ∈ r, ∀ H', Same H H' → LetV K H' y) ∧
  ∃ x, FirstBad nd.emb.length (rowsOf av bg) x ∧ RaiseQ E H CL "letter" x
theorem okB_written (T : Txt K mg) : FnOk P w K mg base (L2N.CX P w) 6 T.a_written T.d_written ["net", "ask", "begun"] (sp_writtenB K T.c_Net T.c_Ask T.c_Rule T.c_InvalidLetter) := by
  refine T.F_written.okN sc_written (fun vs H Q E h => ?_) (fun cdv A outer s H vs Q E hr h => ?_)
  · obtain ⟨_, _, _, _, _, _, _, _, rfl, _⟩ := h
    rfl
  · obtain ⟨p, a, bp, nd, e, av, b, bg, rfl, hN, hA, hB, hsl, hany, x, hx, k⟩ := h
    refine ⟨_, (pss_cons (ps_expr (pe_callS (okN_check_letters T) (hr.mono (by decide)) (by rfl) T.g_check_letters T.F_check_letters.kp T.b_check_letters (fun σ => L2N.passAt (L2N.takes_of rfl rfl rfl rfl) σ) (pa_cons (pv 0) (pa_cons (pv 1) (pa_cons (pv 2) pa_nil)))))
      (PSs.nox (pss_cons (ps_set (i := 3) sc_written.nd rfl (Or.inl rfl) (pe_callTy (k_tupS (K := K) rfl) (by rfl) T.z_tuple (by decide +kernel) (pa_cons (pv 2) pa_nil)))
      (pss_cons (ps_set (i := 4) sc_written.nd rfl (Or.inl rfl) (pe_callTy (k_listS (K := K) rfl) (by rfl) T.z_list (by decide +kernel) (pa_cons (pe_call (ok_rows_of T) (hr.mono (by decide)) (by rfl) T.g_rows_of T.F_rows_of.kp T.b_rows_of .nil pass0 (pa_cons (pv 0) (pa_cons (pe_op op_catA (k_fld (K := K) rfl (pv 1) rfl) (pv 3)) pa_nil))) pa_nil)))
      (pss_cons (ps_asg (pe_call (ok_next_text T) (hr.mono (by decide)) (by rfl) T.g_next_text T.F_next_text.kp T.b_next_text .nil pass0 (pa_cons (pv 0) (pa_cons (pv 1) (pa_cons (pv 3) (pa_cons (pe_ix (k_ix (K := K) rfl) (pe_ix (k_ix (K := K) rfl) (pv 4) (pe_un un_neg pe_int) (fun _ _ => rfl)) pe_int (fun _ _ => rfl)) pa_nil))))) (k_tup (K := K) rfl rfl (pgs_cons (pg_name (i := 3) sc_written.nd rfl (Or.inl rfl)) (pgs_cons (pg_name (i := 5) sc_written.nd rfl (Or.inl rfl)) pgs_nil))))
      (pss_cons (ps_while PassesOwn.never (pt_cmpR op_isNN (pv 5) pe_non (nomark _))
      (pss_cons (ps_expr (k_bm (K := K) rfl PySem.F.plainAttrs_list PySem.F.slot_list_append PySem.F.type_list_append mt_append (pv 4) (pa_cons (pe_meth (pv 0) T.C_Net T.m_Net_row (ok_Net_row T) (hr.mono (by decide)) T.b_Net_row .nil pass0 (pa_cons (pv 4) (pa_cons (pe_ix (k_ix (K := K) rfl) (pv 3) (pe_un un_neg pe_int) (fun _ _ => rfl)) pa_nil))) pa_nil)))
      (pss_one (ps_asg (pe_call (ok_next_text T) (hr.mono (by decide)) (by rfl) T.g_next_text T.F_next_text.kp T.b_next_text .nil pass0 (pa_cons (pv 0) (pa_cons (pv 1) (pa_cons (pv 3) (pa_cons (pe_ix (k_ix (K := K) rfl) (pe_ix (k_ix (K := K) rfl) (pv 4) (pe_un un_neg pe_int) (fun _ _ => rfl)) pe_int (fun _ _ => rfl)) pa_nil))))) (k_tup (K := K) rfl rfl (pgs_cons (pg_name (i := 3) sc_written.nd rfl (Or.inl rfl)) (pgs_cons (pg_name (i := 5) sc_written.nd rfl (Or.inl rfl)) pgs_nil)))))))
      (pss_one (ps_ret (pe_tup (pa_cons (pv 3) (pa_cons (pv 5) pa_nil))))))))))), ?_⟩
    refine go_start (σ' := [some (.ref p), some (.ref a), some (.ref bp), none, none, none]) rfl ?_
    try dsimp only [cxOf, Cx.nox, Cx.wish]
    walk_at "GO"
    exact ⟨p, a, bp, nd, e, av, b, bg, rfl, hN, hA, hB, hsl, hany, fun hall => (hx.not hall).elim, fun y hy => by rw [hy.uniq hx]; exact k⟩
theorem okN_written (T : Txt K mg) : FnOk P w K mg base (L2N.CX P w) 6 T.a_written T.d_written ["net", "ask", "begun"] (fun vs H Q E => sp_written K T.c_Net T.c_Ask T.c_Rule vs H Q E ∨ sp_writtenB K T.c_Net T.c_Ask T.c_Rule T.c_InvalidLetter vs H Q E) :=
  ((ok_written T).cx0).or (okB_written T)

/-! ### a net made of the law's parts -/
theorem told_ofE {K : PySem.W.Frag} {C : Addr} {H1 : Hp} {nd : NetD} {w : Nat} (ok : NetOk nd w) (hpr : nd.p ∈ primes) {v1 v2 v3 v4 e : V} {x dx : Addr} (hx : H1 x = none) (hdx : H1 dx = none) {Q : VK} {E : XK}
    (r1 : RMat K H1 v1 nd.emb) (r2 : RVec false K H1 v2 nd.sh) (r3 : RSeq false K (RSeq false K (RMat K)) H1 v3 nd.lay) (r4 : RMat K H1 v4 nd.out) (q : ∀ H', Same H1 H' → IsNet K C H' x nd e → Q .non H') :
    sp_Net___init__ K C [.ref x, .int nd.p, v1, v2, v3, v4, e] (upd (upd H1 dx (.own x)) x (.ins C dx [])) Q E := by
  have s := make_same (o := .own x) (o' := .ins C dx []) hx hdx
  have := ok.e12
  have := ok.o12
  have := ok.l3
  refine ⟨x, dx, nd, v1, v2, v3, v4, e, rfl, upd_same, hpr, RMatX.mono _ _ _ _ s r1.x, RVecX.mono _ _ _ _ s ⟨false, r2⟩, RLayX.mono _ _ _ _ s (RLay.x r3), RMatX.mono _ _ _ _ s r4.x, by omega, by omega, by omega, fun L hL => ?_, fun H' s' r => q H' ((s.trans s').trans (hide_same _ _)) r⟩
  obtain ⟨h5, hm⟩ := ok.lay L hL
  have := ok.w4
  exact ⟨by omega, fun M hM => by rw [(hm M hM).1]; omega⟩

/-! ### nets told with an end; what is due; how long texts are -/
theorem due_sm {K : PySem.W.Frag} {H : Hp} {x y : V} {r : List Nat × Option Str} {n : Nat} (hz : r.1.length ≤ 100000) (h1 : RDue K H x r) (h2 : RDue K H y r) : Sm K H (n + 2) x y := by
  obtain ⟨p, pt, rfl, hp, ht⟩ := h1
  obtain ⟨q, qt, rfl, hq, hu⟩ := h2
  refine .inr ⟨p, q, false, _, _, rfl, rfl, hp, hq, rfl, by show 2 ≤ 100000; omega, fun i x' y' e1 e2 => ?_⟩
  match i, e1, e2 with
  | 0, e1, e2 => cases e1; cases e2; exact RVec.sm (b := false) (by rw [natI_len]; exact hz) ⟨pt, rfl, ht⟩ ⟨qt, rfl, hu⟩
  | 1, e1, e2 =>
    cases e1; cases e2
    cases r.2 with
    | none => exact .inl ⟨rfl, .inl rfl⟩
    | some s => exact .inl ⟨rfl, .inr (.inr (.inr ⟨s, rfl⟩))⟩
  | i + 2, e1, _ => simp at e1
theorem goD_len {nd : NetD} {en : Option Nat} {ak : AskD} : ∀ (f : Nat) (text : List Nat), (goD nd en ak f text).1.length ≤ text.length + f
  | 0, text => Nat.le_refl _
  | f + 1, text => by
    have hn : (nextD en ak (wAt nd (ak.prompt ++ text)) text).1.length ≤ text.length + 1 := by
      rw [nextD_of]
      cases choiceD ak.rule ak.tape (wAt nd (ak.prompt ++ text)) text with
      | none => exact Nat.le_succ _
      | some l =>
        have e : (text ++ [l]).length = text.length + 1 := by rw [List.length_append]; rfl
        unfold nextTx
        dsimp only
        split
        · exact Nat.le_succ _
        · split
          · dsimp only; rw [List.length_take]; omega
          · dsimp only; omega
    unfold goD
    split
    · have := goD_len (nd := nd) (en := en) (ak := ak) f (nextD en ak (wAt nd (ak.prompt ++ text)) text).1
      omega
    · omega
theorem nextD_lt {en : Option Nat} {ak : AskD} {ws : List Int} {text : List Nat} {L : Nat} (hw : ∀ x ∈ ws, (0 : Int) ≤ x) (hl : ws.length = L) (ht : ∀ l ∈ text, l < L) : ∀ l ∈ (nextD en ak ws text).1, l < L := fun l h => by
  rw [nextD_of] at h
  have hc := fun l => choice_lt (ru := ak.rule) (tape := ak.tape) (text := text) (l := l) hw
  cases e : choiceD ak.rule ak.tape ws text with
  | none => rw [e] at h; exact ht l h
  | some c =>
    rw [e] at h
    have hcl := hc c e
    have ht2 : ∀ l ∈ text ++ [c], l < L := fun l' h' => by
      rcases List.mem_append.mp h' with h' | h'
      · exact ht l' h'
      · rw [List.mem_singleton.mp h']; omega
    unfold nextTx at h
    dsimp only at h
    split at h
    · exact ht l h
    · split at h
      · exact ht2 l (List.mem_of_mem_take h)
      · exact ht2 l h
theorem goD_lt {nd : NetD} {en : Option Nat} {ak : AskD} {w : Nat} (ok : NetOk nd w) (hout : nd.out.length = nd.emb.length) (hp : 1 ≤ ak.prompt.length) : ∀ (f : Nat) (text : List Nat), (∀ l ∈ text, l < nd.emb.length) → ∀ l ∈ (goD nd en ak f text).1, l < nd.emb.length
  | 0, _, ht => ht
  | f + 1, text, ht => by
    have hw := wAt_ok ok (ls := ak.prompt ++ text) (by rw [List.length_append]; omega)
    have h1 := nextD_lt (en := en) (ak := ak) (fun x hx => by have := hw.2 x hx; omega) (hw.1.trans hout) ht
    unfold goD
    split
    · exact goD_lt ok hout hp f _ h1
    · exact h1

/-! ### asks as tuples of five; made; written by the law -/
theorem cutV_toN {xs : List V} {n : Nat} : cutV xs none (some ((n : Nat) : Int)) = xs.take n := by
  by_cases hle : n ≤ xs.length
  · exact cutV_upto hle
  · rw [List.take_of_length_le (by omega)]
    unfold cutV
    rw [HT.sIx_none, HT.sIx_nat, Nat.min_eq_right (by omega), List.drop_zero, Nat.sub_zero, List.take_length]
theorem _root_.L2.Filled.updO {α : Type} {R : Rep α} (ht : RTup R) (hm : RMono R) {H0 H : Hp} {D t : Addr} {ds : List α} {o : HO} (f : Filled R H0 H D ds) (hne : D ≠ t) (h0 : H0 t = none) (hn : NTup (H t)) : Filled R H0 (upd H t o) D ds := by
  obtain ⟨ys, e, hl, hr⟩ := f.at_
  refine ⟨f.new, Same.mut f.same h0, ys, (upd_ne hne).trans e, hl, fun i y d h1 h2 => ?_⟩
  have e2 : L2.hide D (upd H t o) = upd (L2.hide D H) t o := by
    funext b
    unfold L2.hide upd
    by_cases h1 : b = D
    · subst h1
      simp [hne]
    · by_cases h2 : b = t
      · subst h2
        simp [h1]
      · simp [h1, h2]
  rw [e2]
  refine ht.upd hm ?_ (hr i y d h1 h2)
  have e3 : L2.hide D H t = H t := by
    unfold L2.hide
    simp [Ne.symm hne]
  rw [e3]
  exact hn
def RAskT (K : PySem.W.Frag) : Rep AskV := fun H v av => ∃ q pp sp tp rv, v = .ref q ∧ Sq false K H q [.ref pp, .int av.most, .ref sp, .ref tp, rv] ∧ Sq false K H pp av.prompt ∧ RRows false false K H (.ref sp) av.stops ∧ Sq false K H tp (av.tape.map V.int) ∧ RRuT K H rv av.rule
theorem RAskT.mono {K : PySem.W.Frag} : RMono (RAskT K) := fun _ _ _ _ s ⟨q, pp, sp, tp, rv, e, h1, h2, h3, h4, h5⟩ => ⟨q, pp, sp, tp, rv, e, s.sq h1, s.sq h2, RRows.mono _ _ _ _ s h3, s.sq h4, RRuT.mono _ _ _ _ s h5⟩

def sp_L_ask (K : PySem.W.Frag) : Sp := fun vs H Q _ => ∃ (p : Addr) (ns : List Int) (L : Nat), vs = [.ref p, .int L] ∧ H p = some (.lst (ns.map V.int)) ∧ ns.length = 490 ∧ (∀ x ∈ ns, (0 : Int) ≤ x) ∧ 1 ≤ L ∧ L ≤ 12 ∧
  ∀ ak v' H', AskOk ak L → ak.prompt.length ≤ 20 → ak.stops.length ≤ 4 → Same H H' → RAskT K H' v' ak.v → Q v' H'


theorem ok_L_ask (T : Txt K mg) : FnOk P w K mg base CX0 2 T.a_L_ask T.d_L_ask ["_law_numbers_here", "_law_letters"] (sp_L_ask K) := by
  refine T.F_L_ask.ok sc_L_ask (fun vs H Q E h => ?_) (fun cdv A outer s H vs Q E hr h => ?_)
  · obtain ⟨_, _, _, rfl, _⟩ := h
    rfl
  · obtain ⟨p, ns, L, rfl, hL, hnl, hnn, hL0, hL1, k⟩ := h
    have nn : ∀ i : Int, 0 ≤ i → i < 490 → 0 ≤ nth ns i := fun i h0 h1 => hnn _ (nth_mem h0 (by omega))
    have m100 := nn 100 (by omega) (by omega)
    have m101 := nn 101 (by omega) (by omega)
    have m122 := nn 122 (by omega) (by omega)
    have m123 := nn 123 (by omega) (by omega)
    have hmod : ∀ z : Int, 0 ≤ z % (L : Int) ∧ z % (L : Int) < L := fun z => ⟨Int.emod_nonneg _ (by omega), Int.emod_lt_of_pos _ (by omega)⟩
    refine ⟨_, (pss_cons (ps_set (i := 2) sc_L_ask.nd rfl (Or.inl rfl) (pe_lst pa_nil))
      (pss_cons (ps_for PassesOwn.never rfl (pi_range1 rfl T.z_range (pa_cons (pe_ix (k_ix (K := K) rfl) (pe_lst (pa_cons pe_int (pa_cons pe_int (pa_cons pe_int (pa_cons (pe_op (k_addG (K := K) rfl) pe_int (pe_op op_mod (pe_callTy cr_int1 (by rfl) T.z_int (by decide +kernel) (pa_cons (pe_ix (k_ix (K := K) rfl) (pv 0) pe_int (fun _ _ => rfl)) pa_nil)) pe_int)) pa_nil))))) (pe_op op_mod (pe_callTy cr_int1 (by rfl) T.z_int (by decide +kernel) (pa_cons (pe_ix (k_ix (K := K) rfl) (pv 0) pe_int (fun _ _ => rfl)) pa_nil)) pe_int) (fun _ _ => rfl)) pa_nil)) (pg_name (i := 3) sc_L_ask.nd rfl (Or.inl rfl))
      (pss_one (ps_expr (k_bm (K := K) rfl PySem.F.plainAttrs_list PySem.F.slot_list_append PySem.F.type_list_append mt_append (pv 2) (pa_cons (pe_op op_mod (pe_callTy cr_int1 (by rfl) T.z_int (by decide +kernel) (pa_cons (pe_ix (k_ix (K := K) rfl) (pv 0) (pe_op (k_addG (K := K) rfl) pe_int (pv 3)) (fun _ _ => rfl)) pa_nil)) (pv 1)) pa_nil)))))
      (pss_cons (ps_set (i := 4) sc_L_ask.nd rfl (Or.inl rfl) (pe_ix (k_ix (K := K) rfl) (pe_lst (pa_cons pe_int (pa_cons pe_int (pa_cons pe_int (pa_cons (pe_op (k_addG (K := K) rfl) pe_int (pe_op op_mod (pe_callTy cr_int1 (by rfl) T.z_int (by decide +kernel) (pa_cons (pe_ix (k_ix (K := K) rfl) (pv 0) pe_int (fun _ _ => rfl)) pa_nil)) pe_int)) pa_nil))))) (pe_op op_mod (pe_callTy cr_int1 (by rfl) T.z_int (by decide +kernel) (pa_cons (pe_ix (k_ix (K := K) rfl) (pv 0) pe_int (fun _ _ => rfl)) pa_nil)) pe_int) (fun _ _ => rfl)))
      (pss_cons (ps_set (i := 5) sc_L_ask.nd rfl (Or.inl rfl) (pe_call (ok_L_stops T) (hr.mono (by decide)) (by rfl) T.g_L_stops T.F_L_stops.kp T.b_L_stops .nil pass0 (pa_cons (pv 0) (pa_cons pe_int (pa_cons (pv 1) pa_nil)))))
      (pss_one (ps_ret (pe_tup (pa_cons (pe_callTy (k_tupS (K := K) rfl) (by rfl) T.z_tuple (by decide +kernel) (pa_cons (pv 2) pa_nil)) (pa_cons (pv 4) (pa_cons (pv 5) (pa_cons (pe_call (ok_L_tape T) (hr.mono (by decide)) (by rfl) T.g_L_tape T.F_L_tape.kp T.b_L_tape .nil pass0 (pa_cons (pv 0) (pa_cons pe_int pa_nil))) (pa_cons (pe_call (ok_L_rule T) (hr.mono (by decide)) (by rfl) T.g_L_rule T.F_L_rule.kp T.b_L_rule .nil pass0 (pa_cons (pv 0) (pa_cons pe_int (pa_cons (pv 1) pa_nil)))) pa_nil)))))))))))), ?_⟩
    refine go_start (σ' := [some (.ref p), some (.int L), none, none, none, none]) rfl ?_
    try dsimp only [cxOf, Cx.nox, Cx.wish]
    walk_at "GO"
    rename_i D H1 hD s1 e1 q2 H2 hq2 s2 e2
    have e2' : H2 q2 = some (.lst (([1, 2, 3, 1 + nth ns 100 % 20] : List Int).map V.int)) := e2
    clear e2
    have s02 := s1.trans s2
    have e12 : H2 D = some (.lst ((natI []).map V.int)) := s2 _ _ e1
    clear e1
    refine w_ixI (b := true) (ns := [1, 2, 3, 1 + nth ns 100 % 20]) (Sq.lst e2') (by omega) (by show _ < (4 : Int); omega) ?_
    have hc : 1 ≤ nth [1, 2, 3, 1 + nth ns 100 % 20] (nth ns 101 % 4) ∧ nth [1, 2, 3, 1 + nth ns 100 % 20] (nth ns 101 % 4) ≤ 20 := by
      have hm := nth_mem (ns := [1, 2, 3, 1 + nth ns 100 % 20]) (i := nth ns 101 % 4) (by omega) (by show _ < (4 : Int); omega)
      simp only [List.mem_cons, List.not_mem_nil, or_false] at hm
      omega
    generalize nth [1, 2, 3, 1 + nth ns 100 % 20] (nth ns 101 % 4) = c at hc ⊢
    clear e2'
    walk_at "GO"
    refine l_range (fun i σ H' => ∃ (y3 : Option V) (pr : List Nat), σ = [some (.ref p), some (.int L), some (.ref D), y3, none, none] ∧ pr.length = i ∧ (∀ l ∈ pr, l < L) ∧ Same H H' ∧ H' D = some (.lst ((natI pr).map V.int)))
      (by omega) (by omega) ⟨none, [], rfl, rfl, List.forall_mem_nil _, s02, e12⟩ ?_ ?_
    · rintro i σ H3 hi ⟨y3, pr, rfl, hpl, hpr, s3, e3⟩
      have hL3 := s3 _ _ hL
      walk_at "GO"
      have h2 := hmod (nth ns (102 + ((i : Nat) : Int)))
      generalize nth ns (102 + ((i : Nat) : Int)) % (L : Int) = z at h2 ⊢
      obtain ⟨l, rfl⟩ : ∃ l : Nat, z = (l : Int) := ⟨z.toNat, by omega⟩
      refine w_append e3 (line_of1 (by rw [List.length_map, natI_len]; omega)) ?_
      walk_at "GO"
      refine ⟨_, pr ++ [l], rfl, by rw [List.length_append, hpl]; rfl, fun l' hl' => ?_, Same.mut s3 hD, by rw [upd_same, natI_snoc]⟩
      rcases List.mem_append.mp hl' with h | h
      · exact hpr l' h
      · rw [List.mem_singleton.mp h]; omega
    · rintro σ H3 ⟨y3, pr, rfl, hpl, hpr, s3, e3⟩
      have hL3 := s3 _ _ hL
      walk_at "GO"
      rename_i q4 H4 hq4 s4 e4
      have e4' : H4 q4 = some (.lst (([1, 2, 5, 1 + nth ns 122 % 30] : List Int).map V.int)) := e4
      clear e4
      refine w_ixI (b := true) (ns := [1, 2, 5, 1 + nth ns 122 % 30]) (Sq.lst e4') (by omega) (by show _ < (4 : Int); omega) ?_
      have hc2 : 1 ≤ nth [1, 2, 5, 1 + nth ns 122 % 30] (nth ns 123 % 4) ∧ nth [1, 2, 5, 1 + nth ns 122 % 30] (nth ns 123 % 4) ≤ 30 := by
        have hm := nth_mem (ns := [1, 2, 5, 1 + nth ns 122 % 30]) (i := nth ns 123 % 4) (by omega) (by show _ < (4 : Int); omega)
        simp only [List.mem_cons, List.not_mem_nil, or_false] at hm
        omega
      generalize nth [1, 2, 5, 1 + nth ns 122 % 30] (nth ns 123 % 4) = c2 at hc2 ⊢
      obtain ⟨mo, rfl⟩ : ∃ mo : Nat, c2 = (mo : Int) := ⟨c2.toNat, by omega⟩
      clear e4'
      have hL4 := s4 _ _ hL3
      have e34 := s4 _ _ e3
      clear e3 hL3
      walk_at "GO"
      refine ⟨p, ns, _, L, rfl, hL4, by omega, by omega, hL0, hL1, fun ss vS H5 hsl hso s5 rS => ?_⟩
      obtain ⟨sp, ys, rfl, _⟩ := id rS
      have e35 := s5 _ _ e34
      have hL5 := s5 _ _ hL4
      clear e34 hL4
      walk_at "GO"
      rename_i pp H6 hpp s6 e6
      have hL6 := s6 _ _ hL5
      walk_at "GO"
      refine ⟨p, ns, _, rfl, hL6, by omega, by omega, hnn, fun tape vT H7 htl htn s7 ⟨tp, e, hT⟩ => ?_⟩
      subst e
      have hL7 := s7 _ _ hL6
      walk_at "GO"
      refine ⟨p, ns, _, L, rfl, hL7, by omega, by omega, hL0, hL1, fun ru vR H8 hro s8 rR => ?_⟩
      walk_at "GO"
      rename_i q9 H9 hq9 s9 e9
      have s69 := (s7.trans s8).trans s9
      refine k ⟨pr, mo, ss, tape, ru⟩ _ _ ⟨hpr, ⟨by show 1 ≤ pr.length; omega, by show pr.length ≤ 30; omega⟩, ⟨by show 1 ≤ mo; omega, by show mo ≤ 30; omega⟩, hso, by show ss.length ≤ 10; omega, fun t ht => (htn t ht).1, by show tape.length ≤ 100; omega, hro⟩ (by show pr.length ≤ 20; omega) hsl ((((s3.trans s4).trans s5).trans s6).trans s69)
        ⟨q9, pp, sp, tp, vR, rfl, Sq.tup e9, Sq.tup (s69 _ _ e6), RRows.mono _ _ _ _ (s6.trans s69) rS, (s8.trans s9).sq hT, RRuT.mono _ _ _ _ s9 rR⟩


def sp_L_made (K : PySem.W.Frag) (CA CR : Addr) : Sp := fun vs H Q _ => ∃ (v : V) (av : AskV) (L : Nat), vs = [v] ∧ RAskT K H v av ∧ 1 ≤ av.most ∧ av.most ≤ 30 ∧ av.stops.length ≤ 100 ∧ RuleOk L av.rule ∧ ∀ a H', Same H H' → IsAskV K CA CR H' a av → Q (.ref a) H'


theorem ok_L_made (T : Txt K mg) : FnOk P w K mg base CX0 5 T.a_L_made T.d_L_made ["_law_ask_here"] (sp_L_made K T.c_Ask T.c_Rule) := by
  refine T.F_L_made.ok sc_L_made (fun vs H Q E h => ?_) (fun cdv A outer s H vs Q E hr h => ?_)
  · obtain ⟨_, _, _, rfl, _⟩ := h
    rfl
  · obtain ⟨v, av, L, rfl, ⟨q, pp, sp, tp, rv, rfl, hq, hpp, hS, hT, hru⟩, hm0, hm1, hsl, hro, k⟩ := h
    have cA := T.C_Ask
    have cR := T.C_Rule
    refine ⟨_, (pss_cons (ps_set (i := 1) sc_L_made.nd rfl (Or.inl rfl) pe_non)
      (Evl.pss_cut (ps_if (pt_cmpR op_notNN (pe_ix (k_ix (K := K) rfl) (pv 0) pe_int (fun _ _ => rfl)) pe_non (nomark _)) (pss_one (ps_set (i := 1) sc_L_made.nd rfl (Or.inl rfl) (pe_make T.M_Rule (ok_Rule___init__ T) (hr.mono (by decide)) rfl T.gc_Rule T.b_Rule___init__ .nil pass0 (pa_cons (pe_ix (k_ix (K := K) rfl) (pe_ix (k_ix (K := K) rfl) (pv 0) pe_int (fun _ _ => rfl)) pe_int (fun _ _ => rfl)) (pa_cons (pe_ix (k_ix (K := K) rfl) (pe_ix (k_ix (K := K) rfl) (pv 0) pe_int (fun _ _ => rfl)) pe_int (fun _ _ => rfl)) pa_nil))))) pss_nil)
      (pss_one (ps_ret (pe_makeK T.M_Ask (ok_AskInitV T) (hr.mono (by decide)) rfl T.gc_Ask T.kb_Ask___init__ pass0 (pa_cons (pe_ix (k_ix (K := K) rfl) (pv 0) pe_int (fun _ _ => rfl)) (pa_cons (pe_ix (k_ix (K := K) rfl) (pv 0) pe_int (fun _ _ => rfl)) pa_nil)) (pk_cons (pe_ix (k_ix (K := K) rfl) (pv 0) pe_int (fun _ _ => rfl)) (pk_cons (pe_ix (k_ix (K := K) rfl) (pv 0) pe_int (fun _ _ => rfl)) (pk_cons (pv 1) pk_nil)))))))), ?_⟩
    refine go_start (σ' := [some (.ref q), none]) rfl ?_
    try dsimp only [cxOf, Cx.nox, Cx.wish]
    walk_at "GO"
    refine w_cut (fun σ H' => ∃ w, σ = [some (.ref q), some w] ∧ Same H H' ∧ IsRuleV K T.c_Rule H' w av.rule) ?_ ?_
    · obtain ⟨pr, mo, st, ta, ru⟩ := av
      walk_at "GO"
      cases ru with
      | none =>
        obtain rfl : rv = .non := hru
        walk_at "GO"
        exact ⟨_, rfl, Same.refl _, rfl⟩
      | some rr =>
        obtain ⟨s0, st⟩ := rr
        obtain ⟨rp, qv, rfl, hp0, hR⟩ := id hru
        obtain ⟨n, okS, hs0, hs1⟩ := hro
        have hstl := okS.len
        have hstn := okS.n1
        walk_at "GO"
        intro r dx hr' hdx hne'
        have sB : Same H (upd (upd H dx (.own r)) r (.ins T.c_Rule dx [])) := (Same.new hdx).trans (Same.new (by rw [upd_ne (Ne.symm hne')]; exact hr'))
        refine ⟨r, dx, s0, _, false, false, st, rfl, upd_same, RRows.mono _ _ _ _ sB hR, by omega, fun H7 f7 hI => ⟨rfl, ?_⟩⟩
        have s7 : Same H H7 := fun c o hc => f7 _ _ (ne_of_none hc hr') (sB _ _ hc)
        walk_at "GO"
        exact ⟨_, rfl, s7, r, rfl, hI⟩
    rintro σ H1 ⟨rw_, rfl, s1, hrw⟩
    have hq1 := s1.sq hq
    walk_at "GO"
    refine w_makeK ?_
    walk_at "GO"
    refine ⟨rfl, rfl, fun a dx ha hdx hne => ?_⟩
    have sB : Same H1 (upd (upd H1 dx (.own a)) a (.ins T.c_Ask dx [])) := (Same.new hdx).trans (Same.new (by rw [upd_ne (Ne.symm hne)]; exact ha))
    have hra : rw_ ≠ .ref a := fun e => by
      obtain ⟨pr, mo, st, ta, ru⟩ := av
      cases ru with
      | none => have h : rw_ = .non := hrw; rw [h] at e; cases e
      | some rr =>
        obtain ⟨r, er, dxr, _, h1, _⟩ := hrw
        rw [er] at e
        cases e
        rw [h1] at ha; cases ha
    refine ⟨a, dx, av, .ref pp, .ref sp, .ref tp, rw_, false, false, rfl, upd_same, hm0, hm1, hsl, ⟨false, pp, rfl, (s1.trans sB).sq hpp⟩, RRows.mono _ _ _ _ (s1.trans sB) hS, ⟨false, tp, rfl, (s1.trans sB).sq hT⟩, ruleV_same sB hrw, hra, fun H6 f6 hA => ⟨rfl, ?_⟩⟩
    have s6 : Same H1 H6 := fun c o hc => f6 _ _ (ne_of_none hc ha) (sB _ _ hc)
    exact k a H6 (s1.trans s6) hA

/-! ### written by the law's own reckoning -/
theorem nextTx_cases {en : Option Nat} {most : Nat} {stops : List (List Nat)} {text : List Nat} {l : Nat} : nextTx en most stops text (some l) = (if en = some l then (text, some "end") else if 0 < stopLen (text ++ [l]) stops then ((text ++ [l]).take ((text ++ [l]).length - stopLen (text ++ [l]) stops), some "stop") else (text ++ [l], if (text ++ [l]).length = most then some "most" else none) : List Nat × Option Str) := rfl

def sp_L_written (K : PySem.W.Frag) : Sp := fun vs H Q _ => ∃ (vN' vA vb : V) (nd : NetD) (en : Option Nat) (ak : AskD) (w : Nat) (bg : List Nat), vs = [vN', vN en, vA, vb] ∧ RNet K H vN' nd ∧ NetOk nd w ∧ nd.out.length = nd.emb.length ∧ 0 < nd.emb.length ∧ RAskT K H vA ak.v ∧ AskOk ak nd.emb.length ∧ RVec false K H vb (natI bg) ∧ (∀ l ∈ bg, l < nd.emb.length) ∧ bg.length < ak.most ∧
  ∀ v' H', Same H H' → RDue K H' v' (goD nd en ak (ak.most - bg.length) bg) → Q v' H'


theorem ok_L_written (T : Txt K mg) : FnOk P w K mg base CX0 5 T.a_L_written T.d_L_written ["_law_net_here", "_law_end", "_law_ask_here", "_law_begun"] (sp_L_written K) := by
  refine T.F_L_written.ok sc_L_written (fun vs H Q E h => ?_) (fun cdv A outer s H vs Q E hr h => ?_)
  · obtain ⟨_, _, _, _, _, _, _, _, rfl, _⟩ := h
    rfl
  · obtain ⟨vt, vA, vb, nd, en, ak, wd, bg, rfl, hN, okN, hout, hL0, hA, ok, ⟨bp, rfl, hB⟩, hbg, hbm, k⟩ := h
    obtain ⟨q, pp, sp, tp, rv, rfl, hq, hpp, hS, hT, hru⟩ := hA
    have hpp : Sq false K H pp ((natI ak.prompt).map V.int) := hpp
    have hS : RRows false false K H (.ref sp) (stopsV ak.stops) := hS
    have hT : Sq false K H tp (ak.tape.map V.int) := hT
    have hru : RRuT K H rv ak.rule := hru
    have hq : Sq false K H q [.ref pp, .int ak.most, .ref sp, .ref tp, rv] := hq
    have he12 := okN.e12
    have hpl := ok.plen
    have hmo := ok.most
    have hsl := ok.slen
    have hlx : ∀ text : List Nat, (∀ l ∈ text, l < nd.emb.length) → ∀ l ∈ ak.prompt ++ text, l < nd.emb.length := fun text htx l h => by
      rcases List.mem_append.mp h with h | h
      · exact ok.prompt l h
      · exact htx l h
    have hw97 : ∀ text : List Nat, (wAt nd (ak.prompt ++ text)).length = nd.emb.length ∧ ∀ x ∈ wAt nd (ak.prompt ++ text), 1 ≤ x ∧ x ≤ 97 := fun text => by
      have h := wAt_ok okN (ls := ak.prompt ++ text) (by rw [List.length_append]; omega)
      exact ⟨by omega, h.2⟩
    refine ⟨_, (pss_cons (ps_set (i := 4) sc_L_written.nd rfl (Or.inl rfl) (pe_call (ok_L_rowsF T) (hr.mono (by decide)) (by rfl) T.g_L_rows T.F_L_rows.kp T.b_L_rows .nil pass0 (pa_cons (pv 0) (pa_cons (pe_op (k_addG (K := K) rfl) (pe_callTy (k_listS (K := K) rfl) (by rfl) T.z_list (by decide +kernel) (pa_cons (pe_ix (k_ix (K := K) rfl) (pv 2) pe_int (fun _ _ => rfl)) pa_nil)) (pe_callTy (k_listS (K := K) rfl) (by rfl) T.z_list (by decide +kernel) (pa_cons (pv 3) pa_nil))) pa_nil))))
      (pss_cons (ps_set (i := 5) sc_L_written.nd rfl (Or.inl rfl) (pe_callTy (k_listS (K := K) rfl) (by rfl) T.z_list (by decide +kernel) (pa_cons (pv 3) pa_nil)))
      (pss_cons (ps_for PassesOwn.never rfl (pi_range1 rfl T.z_range (pa_cons pe_int pa_nil)) (pg_name (i := 6) sc_L_written.nd rfl (Or.inl rfl))
      (pss_cons (ps_set (i := 7) sc_L_written.nd rfl (Or.inl rfl) (pe_call (ok_L_choice T) (hr.mono (by decide)) (by rfl) T.g_L_choice T.F_L_choice.kp T.b_L_choice .nil pass0 (pa_cons (pe_ix (k_ix (K := K) rfl) (pe_ix (k_ix (K := K) rfl) (pv 4) (pe_un un_neg pe_int) (fun _ _ => rfl)) pe_int (fun _ _ => rfl)) (pa_cons (pe_ix (k_ix (K := K) rfl) (pv 2) pe_int (fun _ _ => rfl)) (pa_cons (pe_ix (k_ix (K := K) rfl) (pv 2) pe_int (fun _ _ => rfl)) (pa_cons (pv 5) pa_nil))))))
      (pss_cons (ps_if (pt_cmpR op_isNN (pv 7) pe_non (nomark _)) (pss_one (ps_ret (pe_tup (pa_cons (pe_callTy (k_tupS (K := K) rfl) (by rfl) T.z_tuple (by decide +kernel) (pa_cons (pv 5) pa_nil)) (pa_cons pe_str pa_nil))))) pss_nil)
      (pss_cons (ps_if (pt_cmpR (k_eqG (K := K) rfl hr.units) (pv 7) (pv 1) (nomark _)) (pss_one (ps_ret (pe_tup (pa_cons (pe_callTy (k_tupS (K := K) rfl) (by rfl) T.z_tuple (by decide +kernel) (pa_cons (pv 5) pa_nil)) (pa_cons pe_str pa_nil))))) pss_nil)
      (pss_cons (ps_expr (k_bm (K := K) rfl PySem.F.plainAttrs_list PySem.F.slot_list_append PySem.F.type_list_append mt_append (pv 5) (pa_cons (pv 7) pa_nil)))
      (pss_cons (ps_set (i := 8) sc_L_written.nd rfl (Or.inl rfl) (pe_call (ok_L_stopped T) (hr.mono (by decide)) (by rfl) T.g_L_stopped T.F_L_stopped.kp T.b_L_stopped .nil pass0 (pa_cons (pv 5) (pa_cons (pe_ix (k_ix (K := K) rfl) (pv 2) pe_int (fun _ _ => rfl)) pa_nil))))
      (pss_cons (ps_if (pt_cmpR op_gt (pv 8) pe_int (nomark _)) (pss_one (ps_ret (pe_tup (pa_cons (pe_callTy (k_tupS (K := K) rfl) (by rfl) T.z_tuple (by decide +kernel) (pa_cons (pe_slice (k_slG (K := K) rfl) (pv 5) po_none (po_some (pe_op op_sub (pe_callB (k_lenS (K := K) rfl) (by rfl) T.z_len (by decide +kernel) (pa_cons (pv 5) pa_nil)) (pv 8)))) pa_nil)) (pa_cons pe_str pa_nil))))) pss_nil)
      (pss_cons (ps_if (pt_cmpR (k_eqG (K := K) rfl hr.units) (pe_callB (k_lenS (K := K) rfl) (by rfl) T.z_len (by decide +kernel) (pa_cons (pv 5) pa_nil)) (pe_ix (k_ix (K := K) rfl) (pv 2) pe_int (fun _ _ => rfl)) (nomark _)) (pss_one (ps_ret (pe_tup (pa_cons (pe_callTy (k_tupS (K := K) rfl) (by rfl) T.z_tuple (by decide +kernel) (pa_cons (pv 5) pa_nil)) (pa_cons pe_str pa_nil))))) pss_nil)
      (pss_one (ps_expr (k_bm (K := K) rfl PySem.F.plainAttrs_list PySem.F.slot_list_append PySem.F.type_list_append mt_append (pv 4) (pa_cons (pe_call (ok_L_row T) (hr.mono (by decide)) (by rfl) T.g_L_row T.F_L_row.kp T.b_L_row .nil pass0 (pa_cons (pv 0) (pa_cons (pv 4) (pa_cons (pv 7) pa_nil)))) pa_nil))))))))))))
      (pss_one (ps_ret (pe_tup (pa_cons (pe_callTy (k_tupS (K := K) rfl) (by rfl) T.z_tuple (by decide +kernel) (pa_cons (pv 5) pa_nil)) (pa_cons pe_str pa_nil)))))))), ?_⟩
    refine go_start (σ' := [some vt, some (vN en), some (.ref q), some (.ref bp), none, none, none, none, none]) rfl ?_
    try dsimp only [cxOf, Cx.nox, Cx.wish]
    walk_at "GO"
    rename_i p1 H1 hp1 s1 e1 p2 H2 hp2 s2 e2
    refine w_catLL (s2 _ _ e1) e2 (by rw [List.length_map, List.length_map, natI_len, natI_len, sizeLine_eq]; omega) fun p3 hp3 => ?_
    rw [natI_catV]
    have s3 := (s1.trans s2).trans (Same.new (o := .lst ((natI (ak.prompt ++ bg)).map V.int)) hp3)
    have e3 : (upd H2 p3 (.lst ((natI (ak.prompt ++ bg)).map V.int))) p3 = some (.lst ((natI (ak.prompt ++ bg)).map V.int)) := upd_same
    generalize upd H2 p3 (.lst ((natI (ak.prompt ++ bg)).map V.int)) = H3 at s3 e3 ⊢
    clear e1 e2 s1 s2 hp1 hp2 hp3
    walk_at "GO"
    refine ⟨vt, _, nd, ak.prompt ++ bg, wd, rfl, RNet.mono _ _ _ _ s3 hN, okN, ⟨true, p3, rfl, Sq.lst e3⟩, hlx bg hbg, by rw [List.length_append]; omega, fun D H4 F4 => ?_⟩
    have s04 := s3.trans F4.same
    have hB4 := s04.sq hB
    walk_at "GO"
    rename_i tD H5 htD s5 e5
    have F5 := F4.mono RRow.mono s5
    have s05 := s04.trans s5
    have hDt : H3 tD = none := none_back F4.same htD
    clear s5 F4 s04 e3 hB4 htD
    refine l_range (fun i σ H' => ∃ (y6 y7 y8 : Option V) (text : List Nat), σ = [some vt, some (vN en), some (.ref q), some (.ref bp), some (.ref D), some (.ref tD), y6, y7, y8] ∧ text.length = bg.length + i ∧ text.length < ak.most ∧ (∀ l ∈ text, l < nd.emb.length) ∧ Filled (RRow K) H3 H' D (rowsD nd (ak.prompt ++ text) []) ∧ H' tD = some (.lst ((natI text).map V.int)) ∧ D ≠ tD ∧ goD nd en ak (ak.most - bg.length) bg = goD nd en ak (ak.most - text.length) text)
      (by omega) (by omega) ⟨none, none, none, bg, rfl, rfl, hbm, hbg, F5, e5, fun z => ?_, rfl⟩ ?_ ?_
    · obtain ⟨ysD, eD, hlD, _⟩ := F5.at_
      rw [z, e5] at eD
      cases eD
      have h1 : (rowsD nd (ak.prompt ++ bg) []).length = ak.prompt.length + bg.length := by rw [rowsD_len, List.length_append]; simp only [List.length_nil]; omega
      rw [h1, List.length_map, natI_len] at hlD
      omega
    · rintro i σ H6 hi ⟨y6, y7, y8, text, rfl, hti, htm, htx, F6, e6, hDn, hwr⟩
      have s06 := s3.trans F6.same
      have hlen : (rowsD nd (ak.prompt ++ text) []).length = ak.prompt.length + text.length := by rw [rowsD_len, List.length_append]; simp only [List.length_nil]; omega
      have hw := hw97 text
      rw [goD_step htm, nextD_of] at hwr
      have hcl := fun l => choice_lt (ru := ak.rule) (tape := ak.tape) (ws := wAt nd (ak.prompt ++ text)) (text := text) (l := l) (fun x hx => by have := hw.2 x hx; omega)
      obtain ⟨r, hr1, hr2⟩ := wAt_last (nd := nd) (ls := ak.prompt ++ text) (by rw [List.length_append]; omega)
      obtain ⟨ysD, eD, hlD, hrD⟩ := F6.at_
      have hll : (ak.prompt ++ text).length = ak.prompt.length + text.length := List.length_append ..
      have hyl : ysD[(ak.prompt ++ text).length - 1]? = some (ysD[(ak.prompt ++ text).length - 1]'(by omega)) := List.getElem?_eq_getElem (by omega)
      obtain ⟨ay, y1, y2, eyl, hy1, _, wl, ewl, hwl⟩ := RRow.mono _ _ _ _ (hide_same D H6) (hrD _ _ _ hyl hr1)
      rw [eyl] at hyl
      subst ewl
      rw [hr2] at hwl
      have hlast : atI ysD (-1) = some (.ref ay) := last_atV hyl (by omega)
      have hq6 := s06.sq hq
      have e6' := e6
      walk_at "GO"
      refine w_ix (Sq.lst eD) hlast ?_
      walk_at "GO"
      refine ⟨_, rv, tp, tD, _, ak.tape, ak.rule, text, true, nd.emb.length, rfl, ⟨false, wl, rfl, hwl⟩, hw.1, hL0, by omega, fun x hx => by have := hw.2 x hx; omega, RRuT.mono _ _ _ _ s06 hru, ok.rule, s06.sq hT, Sq.lst e6, htx, fun H7 s7 => ?_⟩
      generalize choiceD ak.rule ak.tape (wAt nd (ak.prompt ++ text)) text = o at hwr hcl ⊢
      have F7 := F6.mono RRow.mono s7
      have e7 := s7 _ _ e6
      have s07 := s06.trans s7
      have hq7 := s07.sq hq
      clear hy1 hwl hlast hyl hr1 hr2 hrD eD hq6 e6 e6' F6 s06 s7
      cases o with
      | none =>
        dsimp only [vN]
        walk_at "GO"
        rename_i t8 H8 ht8 s8 e8 q9 H9 hq9 s9 e9
        rw [if_neg (by intro h; cases h)] at hwr
        refine k _ _ ((s07.trans s8).trans s9) ?_
        rw [hwr]
        exact ⟨q9, t8, rfl, Sq.tup e9, Sq.tup (s9 _ _ e8)⟩
      | some l =>
        dsimp only [vN]
        have hl := hcl l rfl
        rw [hw.1] at hl
        rw [nextTx_cases] at hwr
        walk_at "GO"
        refine w_eqN ?_
        walk_at "GO"
        refine w_iteD (fun he => ?_) (fun he => ?_)
        · rw [if_pos he, if_neg (by intro h; cases h)] at hwr
          walk_at "GO"
          rename_i t8 H8 ht8 s8 e8 q9 H9 hq9 s9 e9
          refine k _ _ ((s07.trans s8).trans s9) ?_
          rw [hwr]
          exact ⟨q9, t8, rfl, Sq.tup e9, Sq.tup (s9 _ _ e8)⟩
        rw [if_neg he] at hwr
        walk_at "GO"
        refine w_append e7 (line_of1 (by rw [List.length_map, natI_len]; omega)) ?_
        rw [natI_snoc]
        have F8 := F7.updO RRow.tup RRow.mono hDn hDt (o := .lst ((natI (text ++ [l])).map V.int)) (NTup.lst e7)
        have e8 : (upd H7 tD (.lst ((natI (text ++ [l])).map V.int))) tD = some (.lst ((natI (text ++ [l])).map V.int)) := upd_same
        generalize upd H7 tD (.lst ((natI (text ++ [l])).map V.int)) = H8 at F8 e8 ⊢
        have s08 := s3.trans F8.same
        have hq8 := s08.sq hq
        have htl2 : (text ++ [l]).length = text.length + 1 := by rw [List.length_append]; rfl
        have htx2 : ∀ l' ∈ text ++ [l], l' < nd.emb.length := fun l' h => by
          rcases List.mem_append.mp h with h | h
          · exact htx l' h
          · rw [List.mem_singleton.mp h]; exact hl
        have hnl := natI_len (text ++ [l])
        clear e7 F7 s07 hq7
        walk_at "GO"
        refine ⟨tD, _, true, text ++ [l], ak.stops, rfl, Sq.lst e8, RRows.mono _ _ _ _ s08 hS, by omega, fun H9 s9 => ?_⟩
        have F9 := F8.mono RRow.mono s9
        have e9 := s9 _ _ e8
        have s09 := s08.trans s9
        have hq9 := s09.sq hq
        have hle := stopLen_le (text ++ [l]) ak.stops
        generalize stopLen (text ++ [l]) ak.stops = sl at hle hwr ⊢
        clear F8 e8 s08 hq8 s9
        walk_at "GO"
        refine w_iteD (fun h1 => ?_) (fun h1 => ?_)
        · rw [if_pos (show 0 < sl by omega), if_neg (by intro h; cases h)] at hwr
          walk_at "GO"
          refine w_slC (ys := (natI ((text ++ [l]).take ((text ++ [l]).length - sl))).map V.int) (Sq.lst e9) (by
            rw [cutV_intTo (by omega) (by rw [List.length_map]; omega), show (((natI (text ++ [l])).length : Int) - ((sl : Nat) : Int)).toNat = (text ++ [l]).length - sl by omega, natI_takeV]) fun p10 hp10 => ?_
          have s10 := Same.new (o := .lst ((natI ((text ++ [l]).take ((text ++ [l]).length - sl))).map V.int)) hp10
          have e10 : (upd H9 p10 (.lst ((natI ((text ++ [l]).take ((text ++ [l]).length - sl))).map V.int))) p10 = some (.lst ((natI ((text ++ [l]).take ((text ++ [l]).length - sl))).map V.int)) := upd_same
          generalize upd H9 p10 (.lst ((natI ((text ++ [l]).take ((text ++ [l]).length - sl))).map V.int)) = H10 at s10 e10 ⊢
          walk_at "GO"
          rename_i t11 H11 ht11 s11 e11 q12 H12 hq12 s12 e12
          refine k _ _ (((s09.trans s10).trans s11).trans s12) ?_
          rw [hwr]
          exact ⟨q12, t11, rfl, Sq.tup e12, Sq.tup (s12 _ _ e11)⟩
        rw [if_neg (show ¬ 0 < sl by omega)] at hwr
        dsimp only at hwr
        walk_at "GO"
        refine w_iteD (fun h2 => ?_) (fun h2 => ?_)
        · rw [if_pos (show (text ++ [l]).length = ak.most by omega), if_neg (by intro h; cases h)] at hwr
          walk_at "GO"
          rename_i t11 H11 ht11 s11 e11 q12 H12 hq12 s12 e12
          refine k _ _ ((s09.trans s11).trans s12) ?_
          rw [hwr]
          exact ⟨q12, t11, rfl, Sq.tup e12, Sq.tup (s12 _ _ e11)⟩
        · rw [if_neg (show ¬ (text ++ [l]).length = ak.most by omega), if_pos rfl] at hwr
          obtain ⟨ys9, eD9, hl9, _⟩ := id F9.at_
          walk_at "GO"
          refine ⟨vt, _, nd, rowsD nd (ak.prompt ++ text) [], l, wd, rfl, RNet.mono _ _ _ _ s09 hN, okN, F9.seq RRow.mono, rowsD_ok okN _ _ (hlx text htx) (List.forall_mem_nil _), by omega, hl, fun v10 H10 s10 r10 => ?_⟩
          have F10 := F9.mono RRow.mono s10
          have eD10 := s10 _ _ eD9
          have e10 := s10 _ _ e9
          obtain ⟨ys10, eD10', hl10, F11⟩ := F10.push (d := rowD nd (rowsD nd (ak.prompt ++ text) []) l) (RRow.tup _ _ _ _ (NTup.lst eD10) r10)
          walk_at "GO"
          refine w_append eD10' (line_of1 (by rw [hl10]; omega)) ?_
          walk_at "GO"
          refine ⟨_, _, _, text ++ [l], rfl, by omega, by omega, htx2, ?_, (upd_ne (Ne.symm hDn)).trans e10, hDn, by rw [htl2]; exact hwr⟩
          rw [← List.append_assoc, rowsD_snoc]
          exact F11
    · rintro σ H6 ⟨y6, y7, y8, text, rfl, hti, htm, htx, F6, e6, hDn, hwr⟩
      exfalso
      omega


/-! ### letters and what stands for them, with their reprs -/
theorem strOk_of (s : String) : PyData.strOk (Str.ofString s) = true := by
  unfold PyData.strOk
  rw [Str.ofString_eq_toList, Array.all_eq_true_iff_forall_mem]
  intro c hc
  obtain ⟨ch, _, e⟩ := List.mem_map.mp (List.mem_toArray.mp hc)
  have h : Nat.isValidChar ch.toNat := ch.valid
  refine decide_eq_true ?_
  rcases h with h | h <;> omega
theorem shaped_l1 {s : Str} (h : PyData.strOk s = true) : SeqAt.shaped (.list [.str s]) = true := by
  unfold SeqAt.shaped
  simp only [PyData.canLay0, PyData.canLayAll0, PyData.depth, PyData.depthAll, h]
  rfl
theorem eqv_l1 {s : Str} (h : PyData.strOk s = true) : PyData.eqv (.list [.str s]) (.list [.str s]) = true := eqv_refl _ (by simp only [PyData.canLay0, PyData.canLayAll0, h]; rfl)
theorem so_int (i : Int) : PyData.strOk (PyData.shown (.int i)) = true := by
  simp only [PyData.shown]
  exact strOk_of _
theorem ROdd.letV {K : PySem.W.Frag} {H : Hp} {v : V} {d : PyData} (h : ROdd K H v d) : LetV K H v := by
  have h2 := h.between 0 0
  obtain ⟨_, ⟨rfl, rfl⟩ | ⟨b, rfl, rfl⟩ | ⟨i, rfl, rfl⟩ | ⟨s, rfl, rfl⟩ | ⟨a, b, ns, rfl, hq, rfl⟩⟩ := h
  · rcases h2 with ⟨i, e, _⟩ | ⟨_, h2⟩
    · cases e
    · exact .inr ⟨fun i e => (by cases e), h2⟩
  · rcases h2 with ⟨i, e, _⟩ | ⟨_, h2⟩
    · cases e
    · exact .inr ⟨fun i e => (by cases e), h2⟩
  · exact .inl ⟨_, rfl⟩
  · rcases h2 with ⟨i, e, _⟩ | ⟨_, h2⟩
    · cases e
    · exact .inr ⟨fun i e => (by cases e), h2⟩
  · rcases h2 with ⟨i, e, _⟩ | ⟨_, h2⟩
    · cases e
    · exact .inr ⟨fun i e => (by cases e), h2⟩
/-- a letter or what stands for one, with its repr -/
def LetS (K : PySem.W.Frag) (H : Hp) (y : V) : Prop := ∃ d, ROdd K H y d ∧ PyData.strOk d.shown = true
theorem LetS.mono {K : PySem.W.Frag} {H H' : Hp} {y : V} (s : Same H H') (h : LetS K H y) : LetS K H' y := by
  obtain ⟨d, h1, h2⟩ := h
  exact ⟨d, ROdd.mono _ _ _ _ s h1, h2⟩
theorem LetS.letV {K : PySem.W.Frag} {H : Hp} {y : V} (h : LetS K H y) : LetV K H y := by
  obtain ⟨d, h1, _⟩ := h
  exact h1.letV
theorem LetS.small {K : PySem.W.Frag} {H : Hp} {i : Int} (h : i.natAbs < 10000) : LetS K H (.int i) := ⟨.int i, ROdd.int (log_small (by have : (2 : Nat) ^ 200 > 10000 := (by decide); omega)), so_int _⟩

/-! ### letters that are none, put into asks; the first one; refused -/
def sp_L_odd (K : PySem.W.Frag) : Sp := fun vs H Q _ => ∃ (p : Addr) (ns : List Int) (m : Int) (L : Nat), vs = [.ref p, .int m, .int L] ∧ H p = some (.lst (ns.map V.int)) ∧ 0 ≤ m ∧ m + 1 < ns.length ∧ (∀ x ∈ ns, (0 : Int) ≤ x ∧ x < 1000) ∧ L ≤ 12 ∧ ∀ v H', Same H H' → LetS K H' v → Q v H'
theorem ok_L_odd (T : Txt K mg) : FnOk P w K mg base CX0 1 T.a_L_odd T.d_L_odd ["_law_numbers_here", "_law_k", "_law_letters"] (sp_L_odd K) := by
  refine T.F_L_odd.ok sc_L_odd (fun vs H Q E h => ?_) (fun cdv A outer s H vs Q E hr h => ?_)
  · obtain ⟨_, _, _, _, rfl, _⟩ := h
    rfl
  · obtain ⟨p, ns, m, L, rfl, hL, hm0, hm1, hb, hL1, k⟩ := h
    have n0 := hb _ (nth_mem (ns := ns) (i := m) hm0 (by omega))
    have n1 := hb _ (nth_mem (ns := ns) (i := m + 1) (by omega) (by omega))
    refine ⟨_, (pss_one (ps_ret (pe_ix (k_ix (K := K) rfl) (pe_lst (pa_cons (pv 2) (pa_cons (pe_un un_neg pe_int) (pa_cons (pe_op (k_addG (K := K) rfl) (pe_op (k_addG (K := K) rfl) (pv 2) pe_int) (pe_ix (k_ix (K := K) rfl) (pv 0) (pe_op (k_addG (K := K) rfl) (pv 1) pe_int) (fun _ _ => rfl))) (pa_cons (pe_op op_pow pe_int pe_int) (pa_cons pe_bl (pa_cons pe_bl (pa_cons pe_non (pa_cons pe_str (pa_cons (pe_tup (pa_cons pe_int pa_nil)) pa_nil)))))))))) (pe_op op_mod (pe_callTy cr_int1 (by rfl) T.z_int (by decide +kernel) (pa_cons (pe_ix (k_ix (K := K) rfl) (pv 0) (pv 1) (fun _ _ => rfl)) pa_nil)) pe_int) (fun _ _ => rfl)))), ?_⟩
    refine go_start (σ' := [some (.ref p), some (.int m), some (.int L)]) rfl ?_
    try dsimp only [cxOf, Cx.nox, Cx.wish]
    walk_at "GO"
    rename_i o1 H1 ho1 s1 e1 q2 H2 hq2 s2 e2
    have e12 := s2 _ _ e1
    have big : (10 : Int) ^ Int.toNat 20 = 100000000000000000000 := by decide
    rw [big] at e2
    have hL2 := (s1.trans s2) _ _ hL
    walk_at "GO"
    have hall : ∀ (j : Nat) y, [V.int (L : Int), V.int (-1), V.int ((L : Int) + 1 + nth ns (m + 1)), V.int 100000000000000000000, V.bl true, V.bl false, V.non, V.str (Str.ofString "0"), V.ref o1][j]? = some y → LetS K H2 y := fun j y hy => by
      match j, hy with
      | 0, hy => cases hy; exact LetS.small (by omega)
      | 1, hy => cases hy; exact LetS.small (by decide)
      | 2, hy => cases hy; exact LetS.small (by omega)
      | 3, hy => cases hy; exact ⟨_, ROdd.int (by decide), so_int _⟩
      | 4, hy => cases hy; exact ⟨.bool true, ⟨⟨rfl, rfl, Nat.zero_le _, .inl (by decide +kernel)⟩, .inr (.inl ⟨_, rfl, rfl⟩)⟩, by decide +kernel⟩
      | 5, hy => cases hy; exact ⟨.bool false, ⟨⟨rfl, rfl, Nat.zero_le _, .inl (by decide +kernel)⟩, .inr (.inl ⟨_, rfl, rfl⟩)⟩, by decide +kernel⟩
      | 6, hy => cases hy; exact ⟨.none, ⟨⟨rfl, rfl, Nat.zero_le _, .inl (by decide +kernel)⟩, .inl ⟨rfl, rfl⟩⟩, by decide +kernel⟩
      | 7, hy => cases hy; exact ⟨.str (Str.ofString "0"), ⟨⟨rfl, rfl, Nat.zero_le _, .inl (by decide +kernel)⟩, .inr (.inr (.inr (.inl ⟨_, rfl, rfl⟩)))⟩, by decide +kernel⟩
      | 8, hy => cases hy; exact ⟨.tuple [.int 0], ⟨⟨by decide +kernel, by decide +kernel, by decide +kernel, .inl (by decide +kernel)⟩, .inr (.inr (.inr (.inr ⟨o1, false, [0], rfl, Sq.tup e12, rfl⟩)))⟩, by decide +kernel⟩
      | j + 9, hy => simp at hy
    obtain ⟨j, hj, hj2⟩ : ∃ j : Nat, nth ns m % 9 = (j : Int) ∧ j < 9 := ⟨(nth ns m % 9).toNat, by omega, by omega⟩
    obtain ⟨y, hy⟩ : ∃ y, [V.int (L : Int), V.int (-1), V.int ((L : Int) + 1 + nth ns (m + 1)), V.int 100000000000000000000, V.bl true, V.bl false, V.non, V.str (Str.ofString "0"), V.ref o1][j]? = some y := ⟨_, List.getElem?_eq_getElem (by show j < 9; omega)⟩
    have hS := hall j y hy
    rw [hj]
    refine w_ix (Sq.lst e2) (atI_nat hy) ?_
    exact k y _ (s1.trans s2) hS
def sp_L_put07 (K : PySem.W.Frag) : Sp := fun vs H Q _ => ∃ (p : Addr) (xs : List V) (pl : Nat) (v : V), vs = [.ref p, .int (pl : Nat), v] ∧ Sq false K H p xs ∧ pl < xs.length ∧ xs.length ≤ 1000 ∧ ∀ q H', Same H H' → Sq false K H' q (xs.set pl v) → Q (.ref q) H'
theorem ok_L_put (T : Txt K mg) : FnOk P w K mg base CX0 1 T.a_L_put T.d_L_put ["_law_row_here", "_law_place", "_law_value"] (sp_L_put07 K) := by
  refine T.F_L_put.ok sc_L_put (fun vs H Q E h => ?_) (fun cdv A outer s H vs Q E hr h => ?_)
  · obtain ⟨_, _, _, _, rfl, _⟩ := h
    rfl
  · obtain ⟨p, xs, pl, v, rfl, hx, hpl, hxl, k⟩ := h
    refine ⟨_, (pss_one (ps_ret (pe_op op_catA (pe_op op_catA (pe_callTy (k_tupS (K := K) rfl) (by rfl) T.z_tuple (by decide +kernel) (pa_cons (pe_slice (k_slG (K := K) rfl) (pv 0) po_none (po_some (pv 1))) pa_nil)) (pe_tup (pa_cons (pv 2) pa_nil))) (pe_callTy (k_tupS (K := K) rfl) (by rfl) T.z_tuple (by decide +kernel) (pa_cons (pe_slice (k_slG (K := K) rfl) (pv 0) (po_some (pe_op (k_addG (K := K) rfl) (pv 1) pe_int)) po_none) pa_nil))))), ?_⟩
    refine go_start (σ' := [some (.ref p), some (.int (pl : Nat)), some v]) rfl ?_
    try dsimp only [cxOf, Cx.nox, Cx.wish]
    walk_at "GO"
    refine w_slAny (ys := xs.take pl) hx (cutV_upto (by omega)) fun p1 H1 s1 hp1 => ?_
    walk_at "GO"
    rename_i q2 H2 hq2 s2 e2
    refine w_catA (s2.sq hp1) (Sq.tup e2) (by rw [List.length_take]; show min pl xs.length + 1 ≤ _; omega) fun p3 H3 s3 hp3 => ?_
    have hx3 := ((s1.trans s2).trans s3).sq hx
    walk_at "GO"
    refine w_slAny (ys := xs.drop (pl + 1)) hx3 (by rw [show ((pl : Nat) : Int) + 1 = ((pl + 1 : Nat) : Int) from rfl]; exact cutV_from (by omega)) fun p4 H4 s4 hp4 => ?_
    walk_at "GO"
    refine w_catA (s4.sq hp3) hp4 (by rw [List.length_append, List.length_take, List.length_drop]; show min pl xs.length + 1 + _ ≤ _; omega) fun p5 H5 s5 hp5 => ?_
    have e : xs.take pl ++ [v] ++ xs.drop (pl + 1) = xs.set pl v := by
      rw [List.set_eq_take_append_cons_drop, if_pos hpl, List.append_assoc]; rfl
    rw [e] at hp5
    exact k p5 H5 ((((s1.trans s2).trans s3).trans s4).trans s5) hp5
/-- what the loop that spoils an ask keeps -/
structure Spo (K : PySem.W.Frag) (H : Hp) (np nb ns_ : Nat) (pp bp sp : Addr) (pv bg : List V) (sv : List (List V)) : Prop where
  p : Sq false K H pp pv
  b : Sq false K H bp bg
  s : RRows false false K H (.ref sp) sv
  lp : pv.length = np
  lb : bg.length = nb
  ls : sv.length = ns_
  row : ∀ r ∈ sv, 1 ≤ r.length ∧ r.length ≤ 100
  lets : ∀ r ∈ pv :: (sv ++ [bg]), ∀ y ∈ r, LetS K H y
theorem Spo.mono {K : PySem.W.Frag} {H H' : Hp} {np nb ns_ : Nat} {pp bp sp : Addr} {pv bg : List V} {sv : List (List V)} (s : Same H H') (h : Spo K H np nb ns_ pp bp sp pv bg sv) : Spo K H' np nb ns_ pp bp sp pv bg sv :=
  ⟨s.sq h.p, s.sq h.b, RRows.mono _ _ _ _ s h.s, h.lp, h.lb, h.ls, h.row, fun r hr y hy => (h.lets r hr y hy).mono s⟩
theorem mem_set {α : Type} {l : List α} {i : Nat} {a x : α} (h : x ∈ l.set i a) : x ∈ l ∨ x = a := List.mem_or_eq_of_mem_set h
def sp_L_spoilt (K : PySem.W.Frag) : Sp := fun vs H Q _ => ∃ (p : Addr) (ns : List Int) (vA : V) (av : AskV) (bp : Addr) (bg : List V) (L : Nat), vs = [.ref p, vA, .ref bp, .int L] ∧ H p = some (.lst (ns.map V.int)) ∧ ns.length = 490 ∧ (∀ x ∈ ns, (0 : Int) ≤ x ∧ x < 1000) ∧ RAskT K H vA av ∧ Sq false K H bp bg ∧ 1 ≤ av.prompt.length ∧ av.prompt.length ≤ 100 ∧ bg.length ≤ 100 ∧ av.stops.length ≤ 100 ∧ (∀ r ∈ av.stops, 1 ≤ r.length ∧ r.length ≤ 100) ∧ (∀ r ∈ rowsOf av bg, ∀ y ∈ r, LetS K H y) ∧ L ≤ 12 ∧
  ∀ t q2 bp2 av2 bg2 H', Same H H' → Sq false K H' t [.ref q2, .ref bp2] → RAskT K H' (.ref q2) av2 → Sq false K H' bp2 bg2 → av2.most = av.most → av2.rule = av.rule → av2.prompt.length ≤ 100 → bg2.length ≤ 100 → av2.stops.length ≤ 100 → (∀ r ∈ av2.stops, r.length ≤ 100) → (∀ r ∈ rowsOf av2 bg2, ∀ y ∈ r, LetS K H' y) → Q (.ref t) H'
theorem ok_L_spoilt (T : Txt K mg) : FnOk P w K mg base CX0 2 T.a_L_spoilt T.d_L_spoilt ["_law_numbers_here", "_law_ask_here", "_law_begun", "_law_letters"] (sp_L_spoilt K) := by
  refine T.F_L_spoilt.ok sc_L_spoilt (fun vs H Q E h => ?_) (fun cdv A outer s H vs Q E hr h => ?_)
  · obtain ⟨_, _, _, _, _, _, _, rfl, _⟩ := h
    rfl
  · obtain ⟨p, ns, vA, av, bp, bg, L, rfl, hL, hnl, hnb, ⟨q, pp, sp, tp, rv, rfl, hq, hpp, hS, hT, hru⟩, hB, hp0, hp1, hb1, hs1, hsr, hlet, hL12, k⟩ := h
    have nn : ∀ i : Int, 0 ≤ i → i < 490 → 0 ≤ nth ns i ∧ nth ns i < 1000 := fun i h0 h1 => hnb _ (nth_mem h0 (by omega))
    refine ⟨_, (pss_cons (ps_set (i := 4) sc_L_spoilt.nd rfl (Or.inl rfl) (pe_ix (k_ix (K := K) rfl) (pv 1) pe_int (fun _ _ => rfl)))
      (pss_cons (ps_set (i := 5) sc_L_spoilt.nd rfl (Or.inl rfl) (pe_ix (k_ix (K := K) rfl) (pv 1) pe_int (fun _ _ => rfl)))
      (pss_cons (ps_for PassesOwn.never rfl (pi_range1 rfl T.z_range (pa_cons pe_int pa_nil)) (pg_name (i := 6) sc_L_spoilt.nd rfl (Or.inl rfl))
      (pss_cons (ps_set (i := 7) sc_L_spoilt.nd rfl (Or.inl rfl) (pe_call (ok_L_odd T) (hr.mono (by decide)) (by rfl) T.g_L_odd T.F_L_odd.kp T.b_L_odd .nil pass0 (pa_cons (pv 0) (pa_cons (pe_op (k_addG (K := K) rfl) pe_int (pe_op op_mul pe_int (pv 6))) (pa_cons (pv 3) pa_nil)))))
      (pss_cons (ps_set (i := 8) sc_L_spoilt.nd rfl (Or.inl rfl) (pe_callTy cr_int1 (by rfl) T.z_int (by decide +kernel) (pa_cons (pe_ix (k_ix (K := K) rfl) (pv 0) (pe_op (k_addG (K := K) rfl) pe_int (pe_op op_mul pe_int (pv 6))) (fun _ _ => rfl)) pa_nil)))
      (pss_cons (ps_set (i := 9) sc_L_spoilt.nd rfl (Or.inl rfl) (pe_op op_mod (pe_callTy cr_int1 (by rfl) T.z_int (by decide +kernel) (pa_cons (pv 8) pa_nil)) pe_int))
      (Evl.pss_cut (ps_if (pt_cmpR (k_eqG (K := K) rfl hr.units) (pv 9) pe_int (nomark _)) (pss_one (ps_set (i := 4) sc_L_spoilt.nd rfl (Or.inl rfl) (pe_call (ok_L_put T) (hr.mono (by decide)) (by rfl) T.g_L_put T.F_L_put.kp T.b_L_put .nil pass0 (pa_cons (pv 4) (pa_cons (pe_op op_mod (pe_callTy cr_int1 (by rfl) T.z_int (by decide +kernel) (pa_cons (pe_ix (k_ix (K := K) rfl) (pv 0) (pe_op (k_addG (K := K) rfl) pe_int (pe_op op_mul pe_int (pv 6))) (fun _ _ => rfl)) pa_nil)) (pe_callB (k_lenS (K := K) rfl) (by rfl) T.z_len (by decide +kernel) (pa_cons (pv 4) pa_nil))) (pa_cons (pv 7) pa_nil)))))) pss_nil)
      (Evl.pss_cut (ps_if (PW.pt (pw_and (pt_cmpR (k_eqG (K := K) rfl hr.units) (pv 9) pe_int (nomark _)) (pw_and1 (pt_cmpR op_gt (pe_callB (k_lenS (K := K) rfl) (by rfl) T.z_len (by decide +kernel) (pa_cons (pv 2) pa_nil)) pe_int (nomark _))))) (pss_one (ps_set (i := 2) sc_L_spoilt.nd rfl (Or.inl rfl) (pe_call (ok_L_put T) (hr.mono (by decide)) (by rfl) T.g_L_put T.F_L_put.kp T.b_L_put .nil pass0 (pa_cons (pv 2) (pa_cons (pe_op op_mod (pe_callTy cr_int1 (by rfl) T.z_int (by decide +kernel) (pa_cons (pe_ix (k_ix (K := K) rfl) (pv 0) (pe_op (k_addG (K := K) rfl) pe_int (pe_op op_mul pe_int (pv 6))) (fun _ _ => rfl)) pa_nil)) (pe_callB (k_lenS (K := K) rfl) (by rfl) T.z_len (by decide +kernel) (pa_cons (pv 2) pa_nil))) (pa_cons (pv 7) pa_nil)))))) pss_nil)
      (pss_one (ps_if (PW.pt (pw_and (pt_cmpR op_gt (pv 9) pe_int (nomark _)) (pw_and1 (pt_cmpR op_gt (pe_callB (k_lenS (K := K) rfl) (by rfl) T.z_len (by decide +kernel) (pa_cons (pv 5) pa_nil)) pe_int (nomark _))))) (pss_cons (ps_set (i := 10) sc_L_spoilt.nd rfl (Or.inl rfl) (pe_op op_mod (pe_callTy cr_int1 (by rfl) T.z_int (by decide +kernel) (pa_cons (pe_ix (k_ix (K := K) rfl) (pv 0) (pe_op (k_addG (K := K) rfl) pe_int (pe_op op_mul pe_int (pv 6))) (fun _ _ => rfl)) pa_nil)) (pe_callB (k_lenS (K := K) rfl) (by rfl) T.z_len (by decide +kernel) (pa_cons (pv 5) pa_nil))))
      (pss_one (ps_set (i := 5) sc_L_spoilt.nd rfl (Or.inl rfl) (pe_call (ok_L_put T) (hr.mono (by decide)) (by rfl) T.g_L_put T.F_L_put.kp T.b_L_put .nil pass0 (pa_cons (pv 5) (pa_cons (pv 10) (pa_cons (pe_call (ok_L_put T) (hr.mono (by decide)) (by rfl) T.g_L_put T.F_L_put.kp T.b_L_put .nil pass0 (pa_cons (pe_ix (k_ix (K := K) rfl) (pv 5) (pv 10) (fun _ _ => rfl)) (pa_cons (pe_op op_mod (pe_callTy cr_int1 (by rfl) T.z_int (by decide +kernel) (pa_cons (pe_op op_fdiv (pv 8) pe_int) pa_nil)) (pe_callB (k_lenS (K := K) rfl) (by rfl) T.z_len (by decide +kernel) (pa_cons (pe_ix (k_ix (K := K) rfl) (pv 5) (pv 10) (fun _ _ => rfl)) pa_nil))) (pa_cons (pv 7) pa_nil)))) pa_nil))))))) pss_nil))))))))
      (pss_one (ps_ret (pe_tup (pa_cons (pe_tup (pa_cons (pv 4) (pa_cons (pe_ix (k_ix (K := K) rfl) (pv 1) pe_int (fun _ _ => rfl)) (pa_cons (pv 5) (pa_cons (pe_ix (k_ix (K := K) rfl) (pv 1) pe_int (fun _ _ => rfl)) (pa_cons (pe_ix (k_ix (K := K) rfl) (pv 1) pe_int (fun _ _ => rfl)) pa_nil)))))) (pa_cons (pv 2) pa_nil)))))))), ?_⟩
    refine go_start (σ' := [some (.ref p), some (.ref q), some (.ref bp), some (.int L), none, none, none, none, none, none, none]) rfl ?_
    try dsimp only [cxOf, Cx.nox, Cx.wish]
    walk_at "GO"
    refine l_range (fun i σ H' => ∃ (y6 y7 y8 y9 y10 : Option V) (pp' bp' sp' : Addr) (pv' bg' : List V) (sv' : List (List V)), σ = [some (.ref p), some (.ref q), some (.ref bp'), some (.int L), some (.ref pp'), some (.ref sp'), y6, y7, y8, y9, y10] ∧ Same H H' ∧ Spo K H' av.prompt.length bg.length av.stops.length pp' bp' sp' pv' bg' sv')
      (by omega) (by omega) ⟨none, none, none, none, none, pp, bp, sp, av.prompt, bg, av.stops, rfl, Same.refl _, hpp, hB, hS, rfl, rfl, rfl, hsr, hlet⟩ ?_ ?_
    · rintro i σ H1 hi ⟨y6, y7, y8, y9, y10, pp1, bp1, sp1, pv1, bg1, sv1, rfl, s1, J⟩
      have hi2 : i < 2 := by omega
      have m2 := nn (182 + 7 * ((i : Nat) : Int)) (by omega) (by omega)
      have m3 := nn (183 + 7 * ((i : Nat) : Int)) (by omega) (by omega)
      have hL1 := s1 _ _ hL
      walk_at "GO"
      refine ⟨p, ns, _, L, rfl, hL1, by omega, by omega, hnb, hL12, fun od H2 s2 hod => ?_⟩
      have J2 := J.mono s2
      have hL2 := s2 _ _ hL1
      have s02 := s1.trans s2
      clear J hL1 s1 s2
      walk_at "GO"
      generalize nth ns (182 + 7 * ((i : Nat) : Int)) = sd at m2 ⊢
      refine w_cut (fun σ H' => ∃ (pp' bp' sp' : Addr) (pv' bg' : List V) (sv' : List (List V)), σ = [some (.ref p), some (.ref q), some (.ref bp'), some (.int L), some (.ref pp'), some (.ref sp'), some (.int (i : Nat)), some od, some (.int sd), some (.int (sd % 4)), y10] ∧ Same H2 H' ∧ Spo K H' av.prompt.length bg.length av.stops.length pp' bp' sp' pv' bg' sv') ?_ ?_
      · walk_at "GO"
        refine w_iteD (fun h0 => ?_) (fun h0 => ?_)
        · have hpp2 := J2.p
          have hpl := J2.lp
          walk_at "GO"
          have g1 := Int.emod_nonneg (nth ns (183 + 7 * ((i : Nat) : Int))) (b := ((pv1.length : Nat) : Int)) (by omega)
          have g2 := Int.emod_lt_of_pos (nth ns (183 + 7 * ((i : Nat) : Int))) (b := ((pv1.length : Nat) : Int)) (by omega)
          obtain ⟨pl, hpl1, hpl2⟩ : ∃ pl : Nat, nth ns (183 + 7 * ((i : Nat) : Int)) % ((pv1.length : Nat) : Int) = (pl : Int) ∧ pl < pv1.length := ⟨(nth ns (183 + 7 * ((i : Nat) : Int)) % ((pv1.length : Nat) : Int)).toNat, by omega, by omega⟩
          rw [hpl1]
          refine ⟨pp1, pv1, pl, od, rfl, hpp2, hpl2, by omega, fun q3 H3 s3 hq3 => ?_⟩
          have J3 := J2.mono s3
          walk_at "GO"
          refine ⟨q3, bp1, sp1, _, bg1, sv1, rfl, s3, hq3, J3.b, J3.s, by rw [List.length_set]; exact hpl, J3.lb, J3.ls, J3.row, fun r hr' y hy => ?_⟩
          rcases List.mem_cons.mp hr' with rfl | hr'
          · rcases mem_set hy with hy | rfl
            · exact J3.lets _ List.mem_cons_self y hy
            · exact hod.mono s3
          · exact J3.lets r (List.mem_cons_of_mem _ hr') y hy
        · walk_at "GO"
          exact ⟨pp1, bp1, sp1, pv1, bg1, sv1, rfl, Same.refl _, J2⟩
      clear J2
      rintro σ H3 ⟨pp3, bp3, sp3, pv3, bg3, sv3, rfl, s3, J3⟩
      have hod3 := hod.mono s3
      have hL3 := s3 _ _ hL2
      have s03 := s02.trans s3
      clear hod hL2 s02 s3
      refine w_cut (fun σ H' => ∃ (pp' bp' sp' : Addr) (pv' bg' : List V) (sv' : List (List V)), σ = [some (.ref p), some (.ref q), some (.ref bp'), some (.int L), some (.ref pp'), some (.ref sp'), some (.int (i : Nat)), some od, some (.int sd), some (.int (sd % 4)), y10] ∧ Same H3 H' ∧ Spo K H' av.prompt.length bg.length av.stops.length pp' bp' sp' pv' bg' sv') ?_ ?_
      · walk_at "GO"
        refine w_iteD (fun h0 => ?_) (fun h0 => ?_)
        · have hbb := J3.b
          have hbl := J3.lb
          walk_at "GO"
          refine w_iteD (fun h1 => ?_) (fun h1 => ?_)
          · walk_at "GO"
            have g1 := Int.emod_nonneg (nth ns (183 + 7 * ((i : Nat) : Int))) (b := ((bg3.length : Nat) : Int)) (by omega)
            have g2 := Int.emod_lt_of_pos (nth ns (183 + 7 * ((i : Nat) : Int))) (b := ((bg3.length : Nat) : Int)) (by omega)
            obtain ⟨pl, hpl1, hpl2⟩ : ∃ pl : Nat, nth ns (183 + 7 * ((i : Nat) : Int)) % ((bg3.length : Nat) : Int) = (pl : Int) ∧ pl < bg3.length := ⟨(nth ns (183 + 7 * ((i : Nat) : Int)) % ((bg3.length : Nat) : Int)).toNat, by omega, by omega⟩
            rw [hpl1]
            refine ⟨bp3, bg3, pl, od, rfl, hbb, hpl2, by omega, fun q4 H4 s4 hq4 => ?_⟩
            have J4 := J3.mono s4
            walk_at "GO"
            refine ⟨pp3, q4, sp3, pv3, _, sv3, rfl, s4, J4.p, hq4, J4.s, J4.lp, by rw [List.length_set]; exact hbl, J4.ls, J4.row, fun r hr' y hy => ?_⟩
            rcases List.mem_cons.mp hr' with rfl | hr'
            · exact J4.lets _ List.mem_cons_self y hy
            rcases List.mem_append.mp hr' with hr' | hr'
            · exact J4.lets r (List.mem_cons_of_mem _ (List.mem_append_left _ hr')) y hy
            · rw [List.mem_singleton.mp hr'] at hy
              rcases mem_set hy with hy | rfl
              · exact J4.lets bg3 (List.mem_cons_of_mem _ (List.mem_append_right _ (List.mem_singleton.mpr rfl))) y hy
              · exact hod3.mono s4
          · walk_at "GO"
            exact ⟨pp3, bp3, sp3, pv3, bg3, sv3, rfl, Same.refl _, J3⟩
        · walk_at "GO"
          exact ⟨pp3, bp3, sp3, pv3, bg3, sv3, rfl, Same.refl _, J3⟩
      clear J3
      rintro σ H4 ⟨pp4, bp4, sp4, pv4, bg4, sv4, rfl, s4, J4⟩
      have hod4 := hod3.mono s4
      have hL4 := s4 _ _ hL3
      have s04 := s03.trans s4
      clear hod3 hL3 s03 s4
      obtain ⟨_, xs4, ex, hx4, hxl4, hxr4⟩ := id J4.s
      cases ex
      have hsl4 := J4.ls
      walk_at "GO"
      refine w_iteD (fun h0 => ?_) (fun h0 => ?_)
      · walk_at "GO"
        refine w_iteD (fun h1 => ?_) (fun h1 => ?_)
        · walk_at "GO"
          have g1 := Int.emod_nonneg (nth ns (183 + 7 * ((i : Nat) : Int))) (b := ((xs4.length : Nat) : Int)) (by omega)
          have g2 := Int.emod_lt_of_pos (nth ns (183 + 7 * ((i : Nat) : Int))) (b := ((xs4.length : Nat) : Int)) (by omega)
          obtain ⟨pl, hpl1, hpl2⟩ : ∃ pl : Nat, nth ns (183 + 7 * ((i : Nat) : Int)) % ((xs4.length : Nat) : Int) = (pl : Int) ∧ pl < xs4.length := ⟨(nth ns (183 + 7 * ((i : Nat) : Int)) % ((xs4.length : Nat) : Int)).toNat, by omega, by omega⟩
          rw [hpl1]
          have hsv : sv4[pl]? = some (sv4[pl]'(by omega)) := List.getElem?_eq_getElem (by omega)
          obtain ⟨r4, er4, hr4⟩ := hxr4 pl _ _ (List.getElem?_eq_getElem hpl2) hsv
          have hrow := J4.row _ (List.mem_of_getElem? hsv)
          have hlr := J4.lets _ (List.mem_cons_of_mem _ (List.mem_append_left _ (List.mem_of_getElem? hsv)))
          generalize sv4[pl]'(by omega) = row at hsv hr4 hrow hlr
          have hat : atI xs4 ((pl : Nat) : Int) = some (.ref r4) := by rw [← er4]; exact atI_nat (List.getElem?_eq_getElem hpl2)
          refine w_ix hx4 hat ?_
          walk_at "GO"
          refine w_ix hx4 hat ?_
          walk_at "GO"
          have g3 := Int.emod_nonneg (sd / 4) (b := ((row.length : Nat) : Int)) (by omega)
          have g4 := Int.emod_lt_of_pos (sd / 4) (b := ((row.length : Nat) : Int)) (by omega)
          obtain ⟨pj, hpj1, hpj2⟩ : ∃ pj : Nat, sd / 4 % ((row.length : Nat) : Int) = (pj : Int) ∧ pj < row.length := ⟨(sd / 4 % ((row.length : Nat) : Int)).toNat, by omega, by omega⟩
          rw [hpj1]
          refine ⟨r4, row, pj, od, rfl, hr4, hpj2, by omega, fun q5 H5 s5 hq5 => ?_⟩
          have J5 := J4.mono s5
          have hx5 := s5.sq hx4
          walk_at "GO"
          refine ⟨sp4, xs4, pl, .ref q5, rfl, hx5, hpl2, by omega, fun q6 H6 s6 hq6 => ?_⟩
          have J6 := J5.mono s6
          have s56 := s5.trans s6
          walk_at "GO"
          refine ⟨_, _, _, _, _, pp4, bp4, q6, pv4, bg4, sv4.set pl (row.set pj od), rfl, s04.trans s56, J6.p, J6.b, ⟨q6, _, rfl, hq6, by rw [List.length_set, List.length_set]; exact hxl4, fun n y d h1 h2 => ?_⟩, J6.lp, J6.lb, by rw [List.length_set]; exact hsl4, fun r hr' => ?_, fun r hr' y hy => ?_⟩
          · rw [List.getElem?_set] at h1 h2
            by_cases e : pl = n
            · rw [if_pos e, if_pos hpl2] at h1
              rw [if_pos e, if_pos (by omega)] at h2
              cases h1
              cases h2
              exact ⟨q5, rfl, s6.sq hq5⟩
            · rw [if_neg e] at h1 h2
              exact RRw.mono _ _ _ _ s56 (hxr4 n y d h1 h2)
          · rcases mem_set hr' with hr' | rfl
            · exact J6.row r hr'
            · rw [List.length_set]; exact hrow
          · rcases List.mem_cons.mp hr' with rfl | hr'
            · exact J6.lets _ List.mem_cons_self y hy
            rcases List.mem_append.mp hr' with hr' | hr'
            · rcases mem_set hr' with hr' | rfl
              · exact J6.lets r (List.mem_cons_of_mem _ (List.mem_append_left _ hr')) y hy
              · rcases mem_set hy with hy | rfl
                · exact (hlr y hy).mono s56
                · exact hod4.mono s56
            · exact J6.lets r (List.mem_cons_of_mem _ (List.mem_append_right _ hr')) y hy
        · walk_at "GO"
          exact ⟨_, _, _, _, _, pp4, bp4, sp4, pv4, bg4, sv4, rfl, s04, J4⟩
      · walk_at "GO"
        exact ⟨_, _, _, _, _, pp4, bp4, sp4, pv4, bg4, sv4, rfl, s04, J4⟩
    · rintro σ H1 ⟨y6, y7, y8, y9, y10, pp1, bp1, sp1, pv1, bg1, sv1, rfl, s1, J⟩
      have hq1 := s1.sq hq
      walk_at "GO"
      rename_i q2 H2 hq2 s2 e2 t3 H3 ht3 s3 e3
      have s13 := s2.trans s3
      have J3 := J.mono s13
      have s03 := s1.trans s13
      refine k t3 q2 bp1 ⟨pv1, av.most, sv1, av.tape, av.rule⟩ bg1 H3 s03 (Sq.tup e3) ⟨q2, pp1, sp1, tp, rv, rfl, Sq.tup (s3 _ _ e2), J3.p, J3.s, s03.sq hT, RRuT.mono _ _ _ _ s03 hru⟩ J3.b rfl rfl (by show pv1.length ≤ 100; have := J3.lp; omega) (by have := J3.lb; omega) (by show sv1.length ≤ 100; have := J3.ls; omega) (fun r hr' => (J3.row r hr').2) J3.lets
theorem _root_.L2.Fr.sqLst {t : Addr} {H H' : Hp} {K : PySem.W.Frag} {a : Addr} {xs ys : List V} (f : Fr t H H') (ht : H t = some (.lst ys)) (h : Sq false K H a xs) : Sq false K H' a xs := by
  have h : SqT K H a xs := h
  rcases h with (h | ⟨o, h⟩) | h
  · exact .inl (.inl (f _ _ (fun e => by rw [e, ht] at h; cases h) h))
  · exact .inl (.inr ⟨o, f _ _ (fun e => by rw [e, ht] at h; cases h) h⟩)
  · exact .inr h
def sp_L_first_bad (K : PySem.W.Frag) : Sp := fun vs H Q _ => ∃ (vA : V) (av : AskV) (bp : Addr) (bg : List V) (L : Nat), vs = [vA, .ref bp, .int L] ∧ RAskT K H vA av ∧ Sq false K H bp bg ∧ av.stops.length ≤ 100 ∧ (∀ r ∈ rowsOf av bg, r.length ≤ 100 ∧ ∀ y ∈ r, LetS K H y) ∧
  ∀ D H' bs, Same H H' → H' D = some (.lst bs) → ((bs = [] ∧ ∀ r ∈ rowsOf av bg, ∀ y ∈ r, badV L y = false) ∨ ∃ x, bs = [x] ∧ FirstBad L (rowsOf av bg) x) → Q (.ref D) H'
theorem ok_L_first_bad (T : Txt K mg) : FnOk P w K mg base CX0 1 T.a_L_first_bad T.d_L_first_bad ["_law_ask_here", "_law_begun", "_law_letters"] (sp_L_first_bad K) := by
  refine T.F_L_first_bad.ok sc_L_first_bad (fun vs H Q E h => ?_) (fun cdv A outer s H vs Q E hr h => ?_)
  · obtain ⟨_, _, _, _, _, rfl, _⟩ := h
    rfl
  · obtain ⟨vA, av, bp, bg, L, rfl, ⟨q, pp, sp, tp, rv, rfl, hq, hpp, hS, hT, hru⟩, hB, hsl, hlet, k⟩ := h
    refine ⟨_, (pss_cons (ps_set (i := 3) sc_L_first_bad.nd rfl (Or.inl rfl) (pe_lst pa_nil))
      (pss_cons (ps_for PassesOwn.never rfl (k_seqS (K := K) rfl (pe_op op_catA (pe_op op_catA (pe_tup (pa_cons (pe_ix (k_ix (K := K) rfl) (pv 0) pe_int (fun _ _ => rfl)) pa_nil)) (pe_callTy (k_tupS (K := K) rfl) (by rfl) T.z_tuple (by decide +kernel) (pa_cons (pe_ix (k_ix (K := K) rfl) (pv 0) pe_int (fun _ _ => rfl)) pa_nil))) (pe_tup (pa_cons (pv 1) pa_nil)))) (pg_name (i := 4) sc_L_first_bad.nd rfl (Or.inl rfl))
      (pss_one (ps_for PassesOwn.never rfl (k_seqS (K := K) rfl (pv 4)) (pg_name (i := 5) sc_L_first_bad.nd rfl (Or.inl rfl))
      (pss_one (ps_if (PW.pt (pw_or (pt_not (k_tru (K := K) rfl (pe_callB (k_isi (K := K) rfl) (by rfl) T.z_isinstance (by decide +kernel) (pa_cons (pv 5) (pa_cons (pe_bltn (v := .ty "int") (by rfl) T.z_int (by decide +kernel) rfl) pa_nil))) (by intro _; rfl))) (pw_or (k_tru (K := K) rfl (pe_callB (k_isi (K := K) rfl) (by rfl) T.z_isinstance (by decide +kernel) (pa_cons (pv 5) (pa_cons (pe_bltn (v := .ty "bool") (by rfl) T.z_bool (by decide +kernel) rfl) pa_nil))) (by intro _; rfl)) (pw_or1 (pt_not (pt_chain op_le op_lt pe_int (pv 5) (pv 2))))))) (pss_one (ps_expr (k_bm (K := K) rfl PySem.F.plainAttrs_list PySem.F.slot_list_append PySem.F.type_list_append mt_append (pv 3) (pa_cons (pv 5) pa_nil)))) pss_nil)))))
      (pss_one (ps_ret (pe_slice (k_slG (K := K) rfl) (pv 3) po_none (po_some pe_int)))))), ?_⟩
    refine go_start (σ' := [some (.ref q), some (.ref bp), some (.int L), none, none, none]) rfl ?_
    try dsimp only [cxOf, Cx.nox, Cx.wish]
    walk_at "GO"
    rename_i D H1 hD s1 e1 q2 H2 hq2 s2 e2
    have s02 := s1.trans s2
    obtain ⟨_, xs, ea, hx, hxl, hxr⟩ := id hS
    cases ea
    have hx2 := s02.sq hx
    walk_at "GO"
    refine w_catA (Sq.tup e2) hx2 (by show 1 + xs.length ≤ _; omega) fun q4 H4 s4 hq4 => ?_
    walk_at "GO"
    rename_i q5 H5 hq5 s5 e5
    refine w_catA (s5.sq hq4) (Sq.tup e5) (by rw [List.length_append]; show 1 + xs.length + 1 ≤ _; omega) fun q6 H6 s6 hq6 => ?_
    have s26 := (s4.trans s5).trans s6
    have s06 := s02.trans s26
    have e6 := (s2.trans s26) _ _ e1
    have hrow : ∀ (i : Nat) y, ([V.ref pp] ++ xs ++ [V.ref bp])[i]? = some y → ∃ (r : Addr) (ls : List V), y = .ref r ∧ (rowsOf av bg)[i]? = some ls ∧ Sq false K H r ls := fun i y hy => by
      match i, hy with
      | 0, hy => cases hy; exact ⟨pp, av.prompt, rfl, rfl, hpp⟩
      | i + 1, hy =>
        have hy : (xs ++ [V.ref bp])[i]? = some y := hy
        by_cases hlt : i < xs.length
        · rw [List.getElem?_append_left hlt] at hy
          have hsj : av.stops[i]? = some (av.stops[i]'(by omega)) := List.getElem?_eq_getElem (by omega)
          obtain ⟨r, er, hr'⟩ := hxr i y _ hy hsj
          exact ⟨r, _, er, by show (av.stops ++ [bg])[i]? = _; rw [List.getElem?_append_left (by omega)]; exact hsj, hr'⟩
        · have hl := (List.getElem?_eq_some_iff.mp hy).1
          rw [List.length_append] at hl
          obtain rfl : i = xs.length := by
            have : i < xs.length + 1 := hl
            omega
          rw [List.getElem?_append_right (Nat.le_refl _), Nat.sub_self] at hy
          cases hy
          exact ⟨bp, bg, rfl, by show (av.stops ++ [bg])[xs.length]? = _; rw [hxl, List.getElem?_append_right (Nat.le_refl _), Nat.sub_self]; rfl, hB⟩
    have hrl : ([V.ref pp] ++ xs ++ [V.ref bp]).length = (rowsOf av bg).length := by
      unfold rowsOf
      simp only [List.length_append, List.length_cons, List.length_nil]
      omega
    have hrl2 : ([V.ref pp] ++ xs ++ [V.ref bp]).length ≤ 102 := by
      simp only [List.length_append, List.length_cons, List.length_nil]
      omega
    have toS : ∀ {H' : Hp}, Fr D H6 H' → Same H H' := fun f c o e => f c o (ne_of_none e hD) (s06 c o e)
    walk_at "GO"
    refine l_seq (b := false) ([V.ref pp] ++ xs ++ [V.ref bp]) (fun i σ H' => ∃ (y4 y5 : Option V) (bs : List V), σ = [some (.ref q), some (.ref bp), some (.int L), some (.ref D), y4, y5] ∧ Fr D H6 H' ∧ H' D = some (.lst bs) ∧ bs.length ≤ 100 * i ∧ ((bs = [] ∧ ∀ i' r, i' < i → (rowsOf av bg)[i']? = some r → ∀ y ∈ r, badV L y = false) ∨ ∃ x, bs.head? = some x ∧ FirstBad L (rowsOf av bg) x))
      hq6 ⟨none, none, [], rfl, Fr.refl _ _, e6, Nat.zero_le _, .inl ⟨rfl, fun i' r h => absurd h (Nat.not_lt_zero _)⟩⟩ (fun i σ H' _ ⟨_, _, _, _, f, _⟩ => f.sqLst e6 hq6) ?_ ?_
    · rintro i x σ H7 hi hxi ⟨y4, y5, bs, rfl, f7, e7, hbl, hbs⟩
      obtain ⟨r, ls, rfl, hls, hr'⟩ := hrow i x hxi
      have hr7 := (toS f7).sq hr'
      have hlm := hlet ls (List.mem_of_getElem? hls)
      walk_at "GO"
      refine l_seq (b := false) ls (fun j σ H' => ∃ (y5 : Option V) (bs : List V), σ = [some (.ref q), some (.ref bp), some (.int L), some (.ref D), some (.ref r), y5] ∧ Fr D H6 H' ∧ H' D = some (.lst bs) ∧ bs.length ≤ 100 * i + j ∧ ((bs = [] ∧ (∀ i' r, i' < i → (rowsOf av bg)[i']? = some r → ∀ y ∈ r, badV L y = false) ∧ ∀ j' y, j' < j → ls[j']? = some y → badV L y = false) ∨ ∃ x, bs.head? = some x ∧ FirstBad L (rowsOf av bg) x))
        hr7 ⟨_, bs, rfl, f7, e7, hbl, hbs.imp (fun h => ⟨h.1, h.2, fun j' y h => absurd h (Nat.not_lt_zero _)⟩) id⟩ (fun j σ H' _ ⟨_, _, _, f, _⟩ => (toS f).sq hr') ?_ ?_
      · clear e7 hbl hbs bs
        rintro j y σ H8 hj hyj ⟨y5, bs, rfl, f8, e8, hbl, hbs⟩
        have hty : LetV K H8 y := ((hlm.2 y (List.mem_of_getElem? hyj)).mono (toS f8)).letV
        have yes : ∀ (H9 : Hp), H9 = upd H8 D (.lst (bs ++ [y])) → badV L y = true → ∃ (y5 : Option V) (bs' : List V), [some (V.ref q), some (.ref bp), some (.int L), some (.ref D), some (.ref r), some y] = [some (V.ref q), some (.ref bp), some (.int L), some (.ref D), some (.ref r), y5] ∧ Fr D H6 H9 ∧ H9 D = some (.lst bs') ∧ bs'.length ≤ 100 * i + (j + 1) ∧ ((bs' = [] ∧ (∀ i' r, i' < i → (rowsOf av bg)[i']? = some r → ∀ y ∈ r, badV L y = false) ∧ ∀ j' y, j' < j + 1 → ls[j']? = some y → badV L y = false) ∨ ∃ x, bs'.head? = some x ∧ FirstBad L (rowsOf av bg) x) := fun H9 e9 hb => by
          subst e9
          refine ⟨_, _, rfl, f8.upd _, upd_same, by rw [List.length_append]; show bs.length + 1 ≤ _; omega, .inr ?_⟩
          rcases hbs with ⟨rfl, h1, h2⟩ | ⟨x, hx1, hx2⟩
          · exact ⟨y, rfl, hb, i, j, ls, hls, hyj, h1, h2⟩
          · refine ⟨x, ?_, hx2⟩
            cases bs with
            | nil => cases hx1
            | cons b bs => exact hx1
        have no : badV L y = false → ∃ (y5 : Option V) (bs' : List V), [some (V.ref q), some (.ref bp), some (.int L), some (.ref D), some (.ref r), some y] = [some (V.ref q), some (.ref bp), some (.int L), some (.ref D), some (.ref r), y5] ∧ Fr D H6 H8 ∧ H8 D = some (.lst bs') ∧ bs'.length ≤ 100 * i + (j + 1) ∧ ((bs' = [] ∧ (∀ i' r, i' < i → (rowsOf av bg)[i']? = some r → ∀ y ∈ r, badV L y = false) ∧ ∀ j' y, j' < j + 1 → ls[j']? = some y → badV L y = false) ∨ ∃ x, bs'.head? = some x ∧ FirstBad L (rowsOf av bg) x) := fun hb => by
          refine ⟨_, bs, rfl, f8, e8, by omega, hbs.imp (fun h => ⟨h.1, h.2.1, fun j' z hj' hz => ?_⟩) id⟩
          rcases Nat.lt_succ_iff_lt_or_eq.mp hj' with h' | rfl
          · exact h.2.2 j' z h' hz
          · rw [hyj] at hz; cases hz; exact hb
        have hjl : j < 100 := by
          have := (List.getElem?_eq_some_iff.mp hyj).1
          have := hlm.1
          omega
        have hbz : bs.length < sizeLine := line_of (by omega)
        rcases hty with ⟨z, rfl⟩ | ⟨hnz, tn, ht, h5⟩
        · walk_at "GO"
          refine w_isi (tn := "int") (b := true) (.base (.int _)) (by decide +kernel) ?_
          walk_at "GO"
          refine w_isi (tn := "int") (b := false) (.base (.int _)) (by decide +kernel) ?_
          walk_at "GO"
          refine w_iteD (fun h1 => ?_) (fun h1 => ?_)
          · walk_at "GO"
            refine w_iteN (fun h2 => ?_) (fun h2 => ?_)
            · walk_at "GO"
              refine w_append e8 hbz ?_
              walk_at "GO"
              exact yes _ rfl (by show (!decide (0 ≤ z ∧ z < (L : Int))) = true; rw [decide_eq_false (fun h => h2 h.2)]; rfl)
            · walk_at "GO"
              exact no (by show (!decide (0 ≤ z ∧ z < (L : Int))) = false; rw [decide_eq_true ⟨h1, h2⟩]; rfl)
          · walk_at "GO"
            refine w_append e8 hbz ?_
            walk_at "GO"
            exact yes _ rfl (by show (!decide (0 ≤ z ∧ z < (L : Int))) = true; rw [decide_eq_false (fun h => h1 h.1)]; rfl)
        · have hb : badV L y = true := by
            cases y with
            | int z => exact absurd rfl (hnz z)
            | _ => rfl
          walk_at "GO"
          rcases h5 with rfl | h5
          · refine w_isi (tn := "bool") (b := true) ht (by decide +kernel) ?_
            walk_at "GO"
            refine w_isi (tn := "bool") (b := true) ht (by decide +kernel) ?_
            walk_at "GO"
            refine w_append e8 hbz ?_
            walk_at "GO"
            exact yes _ rfl hb
          · have e : kitB tn "int" = some false := by rcases h5 with rfl | rfl | rfl | rfl <;> decide +kernel
            refine w_isi (tn := tn) (b := false) ht e ?_
            walk_at "GO"
            refine w_append e8 hbz ?_
            walk_at "GO"
            exact yes _ rfl hb
      · clear e7 hbl hbs bs
        rintro σ H8 ⟨y5, bs, rfl, f8, e8, hbl, hbs⟩
        walk_at "GO"
        refine ⟨_, _, bs, rfl, f8, e8, by have := hlm.1; omega, hbs.imp (fun h => ⟨h.1, fun i' r' hi' hr2 => ?_⟩) id⟩
        rcases Nat.lt_succ_iff_lt_or_eq.mp hi' with h' | rfl
        · exact h.2.1 i' r' h' hr2
        · rw [hls] at hr2
          cases hr2
          intro y hy
          obtain ⟨j', hj', rfl⟩ := List.mem_iff_getElem.mp hy
          exact h.2.2 j' _ hj' (List.getElem?_eq_getElem hj')
    · rintro σ H7 ⟨y4, y5, bs, rfl, f7, e7, hbl, hbs⟩
      have s07 := toS f7
      walk_at "GO"
      refine w_slC (ys := bs.take 1) (Sq.lst e7) (by
        show cutV bs none (some (1 : Int)) = bs.take 1
        cases bs with
        | nil => rfl
        | cons b bs => exact cutV_upto (b := 1) (by rw [List.length_cons]; omega)) fun p8 hp8 => ?_
      have s8 := Same.new (o := .lst (bs.take 1)) hp8
      walk_at "GO"
      refine k p8 _ _ (s07.trans s8) upd_same (hbs.imp (fun h => ⟨by rw [h.1]; rfl, fun r hr' y hy => ?_⟩) fun ⟨x, h1, h2⟩ => ⟨x, ?_, h2⟩)
      · obtain ⟨i', hi', rfl⟩ := List.mem_iff_getElem.mp hr'
        exact h.2 i' _ (by omega) (List.getElem?_eq_getElem hi') y hy
      · cases bs with
        | nil => cases h1
        | cons b bs => cases h1; rfl
def sp_L_refuses07 (K : PySem.W.Frag) (C CA CR : Addr) : Sp := fun vs H Q _ => ∃ (p a bp : Addr) (nd : NetD) (e : V) (av : AskV) (bg : List V) (x : V), vs = [.ref p, .ref a, .ref bp, x] ∧ IsNet K C H p nd e ∧ IsAskV K CA CR H a av ∧ Sq false K H bp bg ∧ av.stops.length ≤ 100 ∧ (∀ r ∈ rowsOf av bg, ∀ y ∈ r, LetS K H y) ∧ FirstBad nd.emb.length (rowsOf av bg) x ∧ ∀ H', Same H H' → Q (.bl true) H'
theorem ok_L_refuses (T : Txt K mg) : FnG P w K mg base CX0 7 T.a_L_refuses T.d_L_refuses ["_law_net_here", "_law_ask_here", "_law_begun", "_law_odd_here"] (sp_L_refuses07 K T.c_Net T.c_Ask T.c_Rule) := by
  refine T.F_L_refuses.okG sc_L_refuses (fun vs H Q E h => ?_) (fun cdv A outer s H vs Q E hA hr h => ?_)
  · obtain ⟨_, _, _, _, _, _, _, _, rfl, _⟩ := h
    rfl
  · obtain ⟨p, a, bp, nd, e, av, bg, x, rfl, hN, hAk, hB, hsl, hlet, hfb, q⟩ := h
    obtain ⟨dt, hv, hso⟩ : LetS K H x := by
      obtain ⟨_, i, j, r, h1, h2, _⟩ := id hfb
      exact hlet r (List.mem_of_getElem? h1) x (List.mem_of_getElem? h2)
    refine ⟨_, (pss_cons (ps_set (i := 4) sc_L_refuses.nd rfl (Or.inl rfl) (pe_lst pa_nil))
      (pss_cons (L2N.ps_try_as (i := 5) rfl rfl sc_L_refuses.nd rfl rfl ⟨rfl, by decide, .inl T.gc_ServeError⟩ takesN0 (fun W pn xe tk _ => (pss_one (ps_expr (pe_callNT (okN_written T) (hr.mono (by decide)) (by rfl) T.g_written T.F_written.kp T.kb_written (fun σ => L2N.passAt tk σ) (pa_cons (pv 0) (pa_cons (pv 1) pa_nil)) (pk_cons (pv 2) pk_nil)))))
      (fun a oe cls d pn hz hf => (pss_cons (ps_if (k_tru (K := K) rfl (pe_callB (k_isX (K := K) rfl List.mem_cons_self hz.zc hf) (by rfl) T.z_isinstance (by decide +kernel) (pa_cons (pv 5) (pa_cons (pe_glob (v := .ref T.c_InvalidLetter) (by rfl) T.gc_InvalidLetter rfl) pa_nil))) (by intro _; rfl)) (pss_one (ps_expr (k_bm (K := K) rfl PySem.F.plainAttrs_list PySem.F.slot_list_append PySem.F.type_list_append mt_append (pv 4) (pa_cons (pe_callB (k_reprG (K := K) rfl hA hr.units) (by rfl) T.z_repr (by decide +kernel) (pa_cons (pe_xfP T.xf_InvalidLetter T.nf_InvalidLetter List.mem_cons_self hz.zc hf (pv 5) rfl) pa_nil)) pa_nil)))) pss_nil)
      (pss_cons (ps_if (k_tru (K := K) rfl (pe_callB (k_isX (K := K) rfl List.mem_cons_self hz.zc hf) (by rfl) T.z_isinstance (by decide +kernel) (pa_cons (pv 5) (pa_cons (pe_tup (pa_cons (pe_glob (v := .ref T.c_InvalidNumber) (by rfl) T.gc_InvalidNumber rfl) (pa_cons (pe_glob (v := .ref T.c_NoHouse) (by rfl) T.gc_NoHouse rfl) (pa_cons (pe_glob (v := .ref T.c_NoRequest) (by rfl) T.gc_NoRequest rfl) (pa_cons (pe_glob (v := .ref T.c_NoRoom) (by rfl) T.gc_NoRoom rfl) (pa_cons (pe_glob (v := .ref T.c_NotAlone) (by rfl) T.gc_NotAlone rfl) (pa_cons (pe_glob (v := .ref T.c_NotHeld) (by rfl) T.gc_NotHeld rfl) (pa_cons (pe_glob (v := .ref T.c_TooLarge) (by rfl) T.gc_TooLarge rfl) pa_nil)))))))) pa_nil))) (by intro _; rfl)) (pss_one (ps_expr (k_bm (K := K) rfl PySem.F.plainAttrs_list PySem.F.slot_list_append PySem.F.type_list_append mt_append (pv 4) (pa_cons pe_str pa_nil)))) pss_nil)
      (pss_one (ps_if (pt_not (k_tru (K := K) rfl (pe_callB (k_isX (K := K) rfl List.mem_cons_self hz.zc hf) (by rfl) T.z_isinstance (by decide +kernel) (pa_cons (pv 5) (pa_cons (pe_bltn (v := .ty "ValueError") (by rfl) T.z_ValueError (by decide +kernel) rfl) pa_nil))) (by intro _; rfl))) (pss_one (ps_expr (k_bm (K := K) rfl PySem.F.plainAttrs_list PySem.F.slot_list_append PySem.F.type_list_append mt_append (pv 4) (pa_cons pe_str pa_nil)))) pss_nil))))))
      (pss_one (ps_ret (pe_cmpR (k_eqG (K := K) rfl hr.units) (pv 4) (pe_lst (pa_cons (pe_callB (k_reprG (K := K) rfl hA hr.units) (by rfl) T.z_repr (by decide +kernel) (pa_cons (pv 3) pa_nil)) pa_nil)) (nomark _)))))), ?_⟩
    refine go_start (σ' := [some (.ref p), some (.ref a), some (.ref bp), some x, none, none]) rfl ?_
    try dsimp only [cxOf, Cx.nox, Cx.wish]
    walk_at "GO"
    rename_i D H1 hD s1 e1
    refine w_callNT ?_
    walk_at "GO"
    refine ⟨rfl, rfl, .inr ⟨p, a, bp, nd, e, av, false, bg, rfl, hN.mono s1, askV_same s1 hAk, s1.sq hB, hsl, fun r hr' y hy H' s' => ((hlet r hr' y hy).mono (s1.trans s')).letV, x, hfb, fun d H3 hd s3 ed => ?_⟩⟩
    have s13 := s1.trans s3
    have e3 := s3 _ _ e1
    have hnD : D ≠ d := fun z => by rw [z, ed] at e3; cases e3
    clear e1 hd
    have hs := hv.1
    refine ⟨true, exm_sub T.er_ServeError T.sub_InvalidLetter_ServeError, fun _ ea hea => ?_, fun h => nomatch h⟩
    walk_at "GO"
    refine w_isX ed T.ec_InvalidLetter T.er_InvalidLetter T.sub_InvalidLetter_InvalidLetter T.sub_InvalidLetter_InvalidLetter ?_
    walk_at "GO"
    refine w_xfV rfl ed rfl ?_
    refine ⟨x, dt, rfl, (ROdd.mono _ _ _ _ s13 hv).dp, hs.ok, hs.nod, hs.deep, hs.size, ?_⟩
    walk_at "GO"
    refine w_append e3 (by decide) ?_
    have ed4 : (upd H3 D (.lst ([] ++ [V.str dt.shown]))) d = some (.xd [("letter", x)]) := by rw [upd_ne (Ne.symm hnD)]; exact ed
    have e4 : (upd H3 D (.lst ([] ++ [V.str dt.shown]))) D = some (.lst [V.str dt.shown]) := upd_same
    have s4 : Same H (upd H3 D (.lst ([] ++ [V.str dt.shown]))) := s13.mut hD
    generalize upd H3 D (.lst ([] ++ [V.str dt.shown])) = H4 at ed4 e4 s4 ⊢
    clear e3 ed
    walk_at "GO"
    rename_i tp H5 htp s5 e5
    refine w_isXT (s5 _ _ ed4) T.ec_InvalidLetter e5 (.cons (.own _) (.cons (.own _) (.cons (.own _) (.cons (.own _) (.cons (.own _) (.cons (.own _) (.cons (.own _) .nil))))))) (kit_cons (kit_sub T.er_InvalidNumber T.sub_InvalidLetter_InvalidLetter T.sub_InvalidLetter_InvalidNumber) (kit_cons (kit_sub T.er_NoHouse T.sub_InvalidLetter_InvalidLetter T.sub_InvalidLetter_NoHouse) (kit_cons (kit_sub T.er_NoRequest T.sub_InvalidLetter_InvalidLetter T.sub_InvalidLetter_NoRequest) (kit_cons (kit_sub T.er_NoRoom T.sub_InvalidLetter_InvalidLetter T.sub_InvalidLetter_NoRoom) (kit_cons (kit_sub T.er_NotAlone T.sub_InvalidLetter_InvalidLetter T.sub_InvalidLetter_NotAlone) (kit_cons (kit_sub T.er_NotHeld T.sub_InvalidLetter_InvalidLetter T.sub_InvalidLetter_NotHeld) (kit_cons (kit_sub T.er_TooLarge T.sub_InvalidLetter_InvalidLetter T.sub_InvalidLetter_TooLarge) kit_nil))))))) ?_
    walk_at "GO"
    refine w_isXV (s5 _ _ ed4) T.ec_InvalidLetter T.sv_InvalidLetter ?_
    walk_at "GO"
    refine ⟨x, dt, rfl, (ROdd.mono _ _ _ _ (s4.trans s5) hv).dp, hs.ok, hs.nod, hs.deep, hs.size, ?_⟩
    walk_at "GO"
    rename_i p6 H6 hp6 s6 e6
    refine w_eqD (d := .list [.str dt.shown]) (e := .list [.str dt.shown]) (.lst (Sq.lst (s6 _ _ (s5 _ _ e4))) (.cons (.str _) .nil)) (.lst (Sq.lst e6) (.cons (.str _) .nil)) (shaped_l1 hso) (shaped_l1 hso) ?_
    rw [eqv_l1 hso]
    exact q _ ((s4.trans s5).trans s6)

/-! ### the law -/
theorem primes5 : ∀ x ∈ primes ++ [2, 3, 5, 97, 2], x ∈ primes := by decide
def sp_law (K : PySem.W.Frag) : Sp := fun vs H Q _ => ∃ (a : Addr) (ns : List Int), vs = [.ref a] ∧ SqL K H a (ns.map V.int) ∧ ns.length ≤ 63 ∧ ∀ H', Q (.bl true) H'
theorem ok_law (T : Txt K mg) : FnG P w K mg base CX0 8 T.a_law T.d_law ["_law_script"] (sp_law K) := by
  refine T.F_law.okG sc_law (fun vs H Q E h => ?_) (fun cdv A outer s H vs Q E hA hr h => ?_)
  · obtain ⟨_, _, rfl, _⟩ := h
    rfl
  · obtain ⟨a, sc, rfl, hS0, hlen, k⟩ := h
    have hS : Sq true K H a (sc.map V.int) := hS0
    refine ⟨_, (pss_cons (ps_for PassesOwn.never rfl (pi_range1 rfl T.z_range (pa_cons (pe_callB (cr_min2 rfl) (by rfl) T.z_min (by decide +kernel) (pa_cons (pe_callB (k_lenS (K := K) rfl) (by rfl) T.z_len (by decide +kernel) (pa_cons (pv 0) pa_nil)) (pa_cons pe_int pa_nil))) pa_nil)) (pg_name (i := 1) sc_law.nd rfl (Or.inl rfl))
      (pss_cons (ps_set (i := 2) sc_law.nd rfl (Or.inr rfl) (pe_call (ok_L_numbers T) (hr.mono (by decide)) (by rfl) T.g_L_numbers T.F_L_numbers.kp T.b_L_numbers .nil pass0 (pa_cons (pe_ix (k_ix (K := K) rfl) (pv 0) (pv 1) (fun _ _ => rfl)) (pa_cons (pv 1) (pa_cons pe_int pa_nil)))))
      (pss_cons (ps_set (i := 3) sc_law.nd rfl (Or.inl rfl) (pe_lst (pa_cons pe_int (pa_cons pe_int (pa_cons pe_int (pa_cons pe_int (pa_cons pe_int (pa_cons pe_int (pa_cons pe_int (pa_cons pe_int (pa_cons pe_int (pa_cons pe_int (pa_cons pe_int (pa_cons pe_int (pa_cons pe_int (pa_cons pe_int (pa_cons pe_int (pa_cons pe_int (pa_cons pe_int (pa_cons pe_int (pa_cons pe_int (pa_cons pe_int (pa_cons pe_int (pa_cons pe_int (pa_cons pe_int (pa_cons pe_int (pa_cons pe_int pa_nil)))))))))))))))))))))))))))
      (pss_cons (ps_set (i := 4) sc_law.nd rfl (Or.inl rfl) (pe_ix (k_ix (K := K) rfl) (pe_op (k_addG (K := K) rfl) (pv 3) (pe_lst (pa_cons pe_int (pa_cons pe_int (pa_cons pe_int (pa_cons pe_int (pa_cons pe_int pa_nil))))))) (pe_op op_mod (pe_callTy cr_int1 (by rfl) T.z_int (by decide +kernel) (pa_cons (pe_ix (k_ix (K := K) rfl) (pv 2) pe_int (fun _ _ => rfl)) pa_nil)) pe_int) (fun _ _ => rfl)))
      (pss_cons (ps_set (i := 5) sc_law.nd rfl (Or.inr rfl) (pe_ix (k_ix (K := K) rfl) (pe_lst (pa_cons pe_int (pa_cons pe_int (pa_cons pe_int (pa_cons pe_int (pa_cons pe_int (pa_cons pe_int (pa_cons pe_int (pa_cons (pe_op (k_addG (K := K) rfl) pe_int (pe_op op_mod (pe_callTy cr_int1 (by rfl) T.z_int (by decide +kernel) (pa_cons (pe_ix (k_ix (K := K) rfl) (pv 2) pe_int (fun _ _ => rfl)) pa_nil)) pe_int)) pa_nil))))))))) (pe_op op_mod (pe_callTy cr_int1 (by rfl) T.z_int (by decide +kernel) (pa_cons (pe_op op_fdiv (pe_ix (k_ix (K := K) rfl) (pv 2) pe_int (fun _ _ => rfl)) pe_int) pa_nil)) pe_int) (fun _ _ => rfl)))
      (pss_cons (ps_set (i := 6) sc_law.nd rfl (Or.inl rfl) (pe_op (k_addG (K := K) rfl) pe_int (pe_op op_mod (pe_callTy cr_int1 (by rfl) T.z_int (by decide +kernel) (pa_cons (pe_ix (k_ix (K := K) rfl) (pv 2) pe_int (fun _ _ => rfl)) pa_nil)) pe_int)))
      (pss_cons (ps_set (i := 7) sc_law.nd rfl (Or.inl rfl) (pe_ix (k_ix (K := K) rfl) (pe_lst (pa_cons pe_int (pa_cons pe_int (pa_cons pe_int (pa_cons pe_int (pa_cons pe_int (pa_cons pe_int pa_nil))))))) (pe_op op_mod (pe_callTy cr_int1 (by rfl) T.z_int (by decide +kernel) (pa_cons (pe_ix (k_ix (K := K) rfl) (pv 2) pe_int (fun _ _ => rfl)) pa_nil)) pe_int) (fun _ _ => rfl)))
      (pss_cons (ps_set (i := 8) sc_law.nd rfl (Or.inl rfl) (pe_call (ok_L_net T) (hr.mono (by decide)) (by rfl) T.g_L_net T.F_L_net.kp T.b_L_net .nil pass0 (pa_cons (pe_slice (k_slG (K := K) rfl) (pv 2) (po_some pe_int) po_none) (pa_cons (pv 5) (pa_cons (pv 6) (pa_cons (pv 7) (pa_cons (pv 4) pa_nil)))))))
      (pss_cons (ps_set (i := 9) sc_law.nd rfl (Or.inl rfl) (pe_ix (k_ix (K := K) rfl) (pe_lst (pa_cons pe_non (pa_cons (pe_op op_mod (pe_callTy cr_int1 (by rfl) T.z_int (by decide +kernel) (pa_cons (pe_ix (k_ix (K := K) rfl) (pv 2) pe_int (fun _ _ => rfl)) pa_nil)) (pv 5)) pa_nil))) (pe_op op_mod (pe_callTy cr_int1 (by rfl) T.z_int (by decide +kernel) (pa_cons (pe_ix (k_ix (K := K) rfl) (pv 2) pe_int (fun _ _ => rfl)) pa_nil)) pe_int) (fun _ _ => rfl)))
      (pss_cons (ps_set (i := 10) sc_law.nd rfl (Or.inl rfl) (pe_make T.M_Net (ok_Net___init__ T) (hr.mono (by decide)) rfl T.gc_Net T.b_Net___init__ .nil pass0 (pa_cons (pv 4) (pa_cons (pe_ix (k_ix (K := K) rfl) (pv 8) pe_int (fun _ _ => rfl)) (pa_cons (pe_ix (k_ix (K := K) rfl) (pv 8) pe_int (fun _ _ => rfl)) (pa_cons (pe_ix (k_ix (K := K) rfl) (pv 8) pe_int (fun _ _ => rfl)) (pa_cons (pe_ix (k_ix (K := K) rfl) (pv 8) pe_int (fun _ _ => rfl)) (pa_cons (pv 9) pa_nil))))))))
      (pss_cons (ps_set (i := 11) sc_law.nd rfl (Or.inl rfl) (pe_call (ok_L_ask T) (hr.mono (by decide)) (by rfl) T.g_L_ask T.F_L_ask.kp T.b_L_ask .nil pass0 (pa_cons (pv 2) (pa_cons (pv 5) pa_nil))))
      (pss_cons (ps_set (i := 12) sc_law.nd rfl (Or.inl rfl) (pe_call (ok_L_written T) (hr.mono (by decide)) (by rfl) T.g_L_written T.F_L_written.kp T.b_L_written .nil pass0 (pa_cons (pv 8) (pa_cons (pv 9) (pa_cons (pv 11) (pa_cons (pe_tup pa_nil) pa_nil))))))
      (pss_cons (ps_if (pt_not (k_tru (K := K) rfl (pe_call (ok_L_same_at T 3) (hr.mono (by decide)) (by rfl) T.g_L_same T.F_L_same.kp T.b_L_same .nil pass0 (pa_cons (pe_call (ok_written T) (hr.mono (by decide)) (by rfl) T.g_written T.F_written.kp T.b_written (.cons (show RelV (.ref T.w_written) (.ref T.w_written) from rfl) .nil) pass0 (pa_cons (pv 10) (pa_cons (pe_call (ok_L_made T) (hr.mono (by decide)) (by rfl) T.g_L_made T.F_L_made.kp T.b_L_made .nil pass0 (pa_cons (pv 11) pa_nil)) pa_nil))) (pa_cons (pv 12) pa_nil))) (by intro _; rfl))) (pss_one (ps_ret pe_bl)) pss_nil)
      (pss_cons (ps_set (i := 13) sc_law.nd rfl (Or.inl rfl) (pe_tup pa_nil))
      (Evl.pss_cut (ps_if (pt_cmpR (k_eqG (K := K) rfl hr.units) (pe_op op_mod (pe_callTy cr_int1 (by rfl) T.z_int (by decide +kernel) (pa_cons (pe_ix (k_ix (K := K) rfl) (pv 2) pe_int (fun _ _ => rfl)) pa_nil)) pe_int) pe_int (nomark _)) (pss_one (ps_set (i := 13) sc_law.nd rfl (Or.inl rfl) (pe_callTy (k_tupS (K := K) rfl) (by rfl) T.z_tuple (by decide +kernel) (pa_cons (pe_lc (own := [("_law_k", 17)]) (g := gName 17) (tt := tYes) rfl sc_law.nd (pi_range1 rfl T.z_range (pa_cons (pe_op op_mod (pe_callTy cr_int1 (by rfl) T.z_int (by decide +kernel) (pa_cons (pe_ix (k_ix (K := K) rfl) (pv 2) pe_int (fun _ _ => rfl)) pa_nil)) (pe_callB (cr_min2 rfl) (by rfl) T.z_min (by decide +kernel) (pa_cons pe_int (pa_cons (pe_ix (k_ix (K := K) rfl) (pv 11) pe_int (fun _ _ => rfl)) pa_nil)))) pa_nil)) (blkOk_by (own := [("_law_k", 17)]) (by kernel_rfl)) (fun _ _ _ _ _ => (pg_name (i := 17) sc_law.nd rfl (by first | exact Or.inl rfl | exact Or.inr rfl))) (fun _ _ _ _ _ => pts_nil) (fun _ _ _ _ _ => (pe_op op_mod (pe_callTy cr_int1 (by rfl) T.z_int (by decide +kernel) (pa_cons (pe_ix (k_ix (K := K) rfl) (pv 2) (pe_op (k_addG (K := K) rfl) pe_int (pv 17)) (fun _ _ => rfl)) pa_nil)) (pv 5)))) pa_nil)))) pss_nil)
      (Evl.pss_cut (ps_if (pt_cmpR (k_eqG (K := K) rfl hr.units) (pe_op op_mod (pe_callTy cr_int1 (by rfl) T.z_int (by decide +kernel) (pa_cons (pe_ix (k_ix (K := K) rfl) (pv 2) pe_int (fun _ _ => rfl)) pa_nil)) pe_int) pe_int (nomark _)) (pss_cons (ps_set (i := 13) sc_law.nd rfl (Or.inl rfl) (pe_slice (k_slG (K := K) rfl) (pe_ix (k_ix (K := K) rfl) (pv 12) pe_int (fun _ _ => rfl)) po_none (po_some (pe_op op_mod (pe_callTy cr_int1 (by rfl) T.z_int (by decide +kernel) (pa_cons (pe_ix (k_ix (K := K) rfl) (pv 2) pe_int (fun _ _ => rfl)) pa_nil)) (pe_op (k_addG (K := K) rfl) (pe_callB (k_lenS (K := K) rfl) (by rfl) T.z_len (by decide +kernel) (pa_cons (pe_ix (k_ix (K := K) rfl) (pv 12) pe_int (fun _ _ => rfl)) pa_nil)) pe_int)))))
      (pss_one (ps_set (i := 13) sc_law.nd rfl (Or.inl rfl) (pe_slice (k_slG (K := K) rfl) (pv 13) po_none (po_some (pe_op op_sub (pe_ix (k_ix (K := K) rfl) (pv 11) pe_int (fun _ _ => rfl)) pe_int)))))) pss_nil)
      (pss_cons (ps_set (i := 14) sc_law.nd rfl (Or.inl rfl) (pv 13))
      (Evl.pss_cut (ps_if (pt_cmpR (k_eqG (K := K) rfl hr.units) (pe_op op_mod (pe_callTy cr_int1 (by rfl) T.z_int (by decide +kernel) (pa_cons (pe_ix (k_ix (K := K) rfl) (pv 2) pe_int (fun _ _ => rfl)) pa_nil)) pe_int) pe_int (nomark _)) (pss_one (ps_set (i := 14) sc_law.nd rfl (Or.inl rfl) (pe_callTy (k_listS (K := K) rfl) (by rfl) T.z_list (by decide +kernel) (pa_cons (pv 13) pa_nil)))) pss_nil)
      (pss_cons (ps_if (pt_not (k_tru (K := K) rfl (pe_call (ok_L_same_at T 3) (hr.mono (by decide)) (by rfl) T.g_L_same T.F_L_same.kp T.b_L_same .nil pass0 (pa_cons (pe_callN (ok_written T) (hr.mono (by decide)) (by rfl) T.g_written T.F_written.kp T.kb_written pass0 (pa_cons (pv 10) (pa_cons (pe_call (ok_L_made T) (hr.mono (by decide)) (by rfl) T.g_L_made T.F_L_made.kp T.b_L_made .nil pass0 (pa_cons (pv 11) pa_nil)) pa_nil)) (pk_cons (pv 14) pk_nil)) (pa_cons (pe_call (ok_L_written T) (hr.mono (by decide)) (by rfl) T.g_L_written T.F_L_written.kp T.b_L_written .nil pass0 (pa_cons (pv 8) (pa_cons (pv 9) (pa_cons (pv 11) (pa_cons (pv 13) pa_nil))))) pa_nil))) (by intro _; rfl))) (pss_one (ps_ret pe_bl)) pss_nil)
      (pss_cons (ps_if (pt_cmpR (k_neG (K := K) rfl hr.units) (pe_callTy (k_listS (K := K) rfl) (by rfl) T.z_list (by decide +kernel) (pa_cons (pv 14) pa_nil)) (pe_callTy (k_listS (K := K) rfl) (by rfl) T.z_list (by decide +kernel) (pa_cons (pv 13) pa_nil)) (nomark _)) (pss_one (ps_ret pe_bl)) pss_nil)
      (pss_cons (ps_set (i := 15) sc_law.nd rfl (Or.inl rfl) (pe_call (ok_L_spoilt T) (hr.mono (by decide)) (by rfl) T.g_L_spoilt T.F_L_spoilt.kp T.b_L_spoilt .nil pass0 (pa_cons (pv 2) (pa_cons (pv 11) (pa_cons (pv 13) (pa_cons (pv 5) pa_nil))))))
      (pss_cons (ps_set (i := 16) sc_law.nd rfl (Or.inl rfl) (pe_call (ok_L_first_bad T) (hr.mono (by decide)) (by rfl) T.g_L_first_bad T.F_L_first_bad.kp T.b_L_first_bad .nil pass0 (pa_cons (pe_ix (k_ix (K := K) rfl) (pv 15) pe_int (fun _ _ => rfl)) (pa_cons (pe_ix (k_ix (K := K) rfl) (pv 15) pe_int (fun _ _ => rfl)) (pa_cons (pv 5) pa_nil)))))
      (pss_one (ps_if (PW.pt (pw_and (pt_cmpR op_gt (pe_callB (k_lenS (K := K) rfl) (by rfl) T.z_len (by decide +kernel) (pa_cons (pv 16) pa_nil)) pe_int (nomark _)) (pw_and1 (pt_not (k_tru (K := K) rfl (pe_callG (ok_L_refuses T) hA (hr.mono (by decide)) (by rfl) T.g_L_refuses T.F_L_refuses.kp T.b_L_refuses pass0 (pa_cons (pv 10) (pa_cons (pe_call (ok_L_made T) (hr.mono (by decide)) (by rfl) T.g_L_made T.F_L_made.kp T.b_L_made .nil pass0 (pa_cons (pe_ix (k_ix (K := K) rfl) (pv 15) pe_int (fun _ _ => rfl)) pa_nil)) (pa_cons (pe_ix (k_ix (K := K) rfl) (pv 15) pe_int (fun _ _ => rfl)) (pa_cons (pe_ix (k_ix (K := K) rfl) (pv 16) pe_int (fun _ _ => rfl)) pa_nil))))) (by intro _; rfl)))))) (pss_one (ps_ret pe_bl)) pss_nil))))))))))))))))))))))))
      (pss_one (ps_ret pe_bl))), ?_⟩
    refine go_start (σ' := [some (.ref a), none, none, none, none, none, none, none, none, none, none, none, none, none, none, none, none, none]) rfl ?_
    try dsimp only [cxOf, Cx.nox, Cx.wish]
    walk_at "GO"
    have hm : (if (3 : Int) < (sc.length : Int) then 3 else (sc.length : Int)) ≤ sc.length ∧ (if (3 : Int) < (sc.length : Int) then 3 else (sc.length : Int)) ≤ 3 ∧ (0 : Int) ≤ (if (3 : Int) < (sc.length : Int) then 3 else (sc.length : Int)) := by split <;> omega
    refine l_range (fun i σ H' => ∃ (y1 y2 y3 y4 y5 y6 y7 y8 y9 y10 y11 y12 y13 y14 y15 y16 y17 : Option V), σ = [some (.ref a), y1, y2, y3, y4, y5, y6, y7, y8, y9, y10, y11, y12, y13, y14, y15, y16, y17] ∧ Same H H')
      (by omega) (by omega) ⟨none, none, none, none, none, none, none, none, none, none, none, none, none, none, none, none, none, rfl, Same.refl _⟩ ?_ ?_
    · rintro i σ H' hi ⟨y1, y2, y3, y4, y5, y6, y7, y8, y9, y10, y11, y12, y13, y14, y15, y16, y17, rfl, sm⟩
      walk_at "GO"
      refine ⟨_, _, _, rfl, by omega, by omega, fun ns p H1 hnl hnb s1 hp hL => ?_⟩
      have nn : ∀ i : Int, 0 ≤ i → i < 490 → 0 ≤ nth ns i ∧ nth ns i < 1000 := fun i h0 h1 => hnb _ (nth_mem h0 (by omega))
      have m0 := nn 0 (by omega) (by omega)
      have m1 := nn 1 (by omega) (by omega)
      have m2 := nn 2 (by omega) (by omega)
      have m3 := nn 3 (by omega) (by omega)
      have m191 := nn 191 (by omega) (by omega)
      have m192 := nn 192 (by omega) (by omega)
      have m193 := nn 193 (by omega) (by omega)
      have m194 := nn 194 (by omega) (by omega)
      have m195 := nn 195 (by omega) (by omega)
      walk_at "GO"
      rename_i pl H2 hpl s2 e2 p3 H3 hp3 s3 e3
      have e2' : H3 pl = some (.lst (primes.map V.int)) := s3 _ _ e2
      have e3' : H3 p3 = some (.lst (([2, 3, 5, 97, 2] : List Int).map V.int)) := e3
      clear e2 e3
      refine w_catLL e2' e3' (by show 25 + 5 ≤ sizeLine; decide) fun p4 hp4 => ?_
      rw [← List.map_append]
      have s4 := (s2.trans s3).trans (Same.new (o := .lst ((primes ++ [2, 3, 5, 97, 2]).map V.int)) hp4)
      have e4 : (upd H3 p4 (.lst ((primes ++ [2, 3, 5, 97, 2]).map V.int))) p4 = some (.lst ((primes ++ [2, 3, 5, 97, 2]).map V.int)) := upd_same
      generalize upd H3 p4 (.lst ((primes ++ [2, 3, 5, 97, 2]).map V.int)) = H4 at s4 e4 ⊢
      clear e2' e3' s2 s3 hpl hp3 hp4
      have hL4 := s4 _ _ hL
      walk_at "GO"
      refine w_ixI (b := true) (ns := primes ++ [2, 3, 5, 97, 2]) (Sq.lst e4) (by omega) (by show _ < (30 : Int); omega) ?_
      have hpm := primes5 _ (nth_mem (ns := primes ++ [2, 3, 5, 97, 2]) (i := nth ns 0 % 30) (by omega) (by show _ < (30 : Int); omega))
      generalize nth (primes ++ [2, 3, 5, 97, 2]) (nth ns 0 % 30) = pr at hpm ⊢
      have hpb := prime_between hpm
      clear e4
      walk_at "GO"
      -- letters
      rename_i p5 H5 hp5 s5 e5
      have e5' : H5 p5 = some (.lst (([1, 2, 3, 4, 2, 3, 5, 1 + nth ns 1 % 12] : List Int).map V.int)) := e5
      clear e5
      have hL5 := s5 _ _ hL4
      refine w_ixI (b := true) (ns := [1, 2, 3, 4, 2, 3, 5, 1 + nth ns 1 % 12]) (Sq.lst e5') (by omega) (by show _ < (8 : Int); omega) ?_
      have hc : 1 ≤ nth [1, 2, 3, 4, 2, 3, 5, 1 + nth ns 1 % 12] (nth ns 1 / 100 % 8) ∧ nth [1, 2, 3, 4, 2, 3, 5, 1 + nth ns 1 % 12] (nth ns 1 / 100 % 8) ≤ 12 := by
        have hm := nth_mem (ns := [1, 2, 3, 4, 2, 3, 5, 1 + nth ns 1 % 12]) (i := nth ns 1 / 100 % 8) (by omega) (by show _ < (8 : Int); omega)
        simp only [List.mem_cons, List.not_mem_nil, or_false] at hm
        omega
      generalize nth [1, 2, 3, 4, 2, 3, 5, 1 + nth ns 1 % 12] (nth ns 1 / 100 % 8) = Lz at hc ⊢
      obtain ⟨L, rfl⟩ : ∃ L : Nat, Lz = (L : Int) := ⟨Lz.toNat, by omega⟩
      have hmodL : ∀ z : Int, 0 ≤ z % (L : Int) ∧ z % (L : Int) < L := fun z => ⟨Int.emod_nonneg _ (by omega), Int.emod_lt_of_pos _ (by omega)⟩
      clear e5'
      walk_at "GO"
      -- layers
      rename_i p6 H6 hp6 s6 e6
      have e6' : H6 p6 = some (.lst (([0, 1, 1, 2, 1, 3] : List Int).map V.int)) := e6
      clear e6
      have hL6 := s6 _ _ hL5
      refine w_ixI (b := true) (ns := [0, 1, 1, 2, 1, 3]) (Sq.lst e6') (by omega) (by show _ < (6 : Int); omega) ?_
      have hc2 : 0 ≤ nth [0, 1, 1, 2, 1, 3] (nth ns 3 % 6) ∧ nth [0, 1, 1, 2, 1, 3] (nth ns 3 % 6) ≤ 3 := by
        have hm := nth_mem (ns := [0, 1, 1, 2, 1, 3]) (i := nth ns 3 % 6) (by omega) (by show _ < (6 : Int); omega)
        simp only [List.mem_cons, List.not_mem_nil, or_false] at hm
        omega
      generalize nth [0, 1, 1, 2, 1, 3] (nth ns 3 % 6) = my at hc2 ⊢
      clear e6'
      walk_at "GO"
      -- the net
      refine w_slC (ys := (ns.drop 330).map V.int) (Sq.lst hL6) (by rw [show (330 : Int) = ((330 : Nat) : Int) from rfl, cutV_from (by rw [List.length_map]; omega), List.map_drop]) fun q7 hq7 => ?_
      have s7 := Same.new (o := .lst ((ns.drop 330).map V.int)) hq7
      have e7 : (upd H6 q7 (.lst ((ns.drop 330).map V.int))) q7 = some (.lst ((ns.drop 330).map V.int)) := upd_same
      generalize upd H6 q7 (.lst ((ns.drop 330).map V.int)) = H7 at s7 e7 ⊢
      walk_at "GO"
      refine ⟨q7, _, true, _, _, _, _, rfl, Sq.lst e7, by rw [List.length_drop]; omega, by rw [List.length_drop]; omega, by omega, by omega, by omega, by omega, by omega, by omega, hpb.1, hpb.2, fun vN' H8 nd s8 rN ok hp4 he4 ho4 hm4 => ?_⟩
      subst hp4
      have s68 := s7.trans s8
      have hL8 := s68 _ _ hL6
      have heL : nd.emb.length = L := by omega
      clear s7 s8 e7
      walk_at "GO"
      -- the end
      rename_i p9 H9 hp9 s9 e9
      have hL9 := s9 _ _ hL8
      have rN9 := RNet.mono _ _ _ _ s9 rN
      obtain ⟨en, hen⟩ : ∃ en : Option Nat, atI [V.non, .int (nth ns 191 % (L : Int))] (nth ns 192 % 2) = some (vN en) := by
        have h : nth ns 192 % 2 = 0 ∨ nth ns 192 % 2 = 1 := by omega
        have h90 := hmodL (nth ns 191)
        rcases h with h | h <;> rw [h]
        · exact ⟨none, rfl⟩
        · refine ⟨some (nth ns 191 % (L : Int)).toNat, ?_⟩
          show some (V.int (nth ns 191 % (L : Int))) = some (V.int (((nth ns 191 % (L : Int)).toNat : Nat) : Int))
          rw [Int.toNat_of_nonneg h90.1]
      refine w_ix (Sq.lst e9) hen ?_
      clear e9 hen
      obtain ⟨an, v1, v2, v3, v4, rfl, hn1, r1, r2, r3, r4⟩ := id rN9
      walk_at "GO"
      intro q dx hq hdx hne
      refine told_ofE ok hpm hq hdx r1 r2 r3 r4 fun H10 s10 hN => ⟨rfl, ?_⟩
      have hL10 := s10 _ _ hL9
      have rN10 := RNet.mono _ _ _ _ s10 rN9
      have s110 := (((s4.trans s5).trans s6).trans s68).trans (s9.trans s10)
      clear hn1 r1 r2 r3 r4 rN rN9 hL4 hL5 hL6 hL8 hL9 s4 s5 s6 s68 s9 s10 hq hdx hp5 hp6 hp9 hq7
      generalize (1 + nth ns 2 % 4).toNat = wd at ok
      walk_at "GO"
      -- the ask
      refine ⟨p, ns, L, rfl, hL10, by omega, fun x hx => (hnb x hx).1, by omega, by omega, fun ak vA H11 okA hpl20 hsl4 s11 rA => ?_⟩
      have hL11 := s11 _ _ hL10
      have rN11 := RNet.mono _ _ _ _ s11 rN10
      have hN11 := hN.mono s11
      have okA' : AskOk ak nd.emb.length := by rw [heL]; exact okA
      have hmo := okA.most
      clear hL10 rN10 hN
      walk_at "GO"
      rename_i q12 H12 hq12 s12 e12
      refine ⟨_, vA, _, nd, en, ak, wd, [], rfl, RNet.mono _ _ _ _ s12 rN11, ok, ho4, by omega, RAskT.mono _ _ _ _ s12 rA, okA', ⟨q12, rfl, Sq.tup e12⟩, List.forall_mem_nil _, by show 0 < ak.most; omega, fun vW H13 s13 rW => ?_⟩
      have s1113 := s12.trans s13
      have hL13 := s1113 _ _ hL11
      have rN13 := RNet.mono _ _ _ _ s1113 rN11
      have hN13 := hN11.mono s1113
      have rA13 := RAskT.mono _ _ _ _ s1113 rA
      clear e12 hq12 hL11 rN11 hN11 rA s12 s13
      have rule_ok : RuleOk L ak.v.rule := okA.rule
      walk_at "GO"
      refine ⟨vA, ak.v, L, rfl, rA13, hmo.1, hmo.2, by show (stopsV ak.stops).length ≤ 100; rw [stopsV_len]; omega, rule_ok, fun a14 H14 s14 hA14 => ?_⟩
      walk_at "GO"
      refine ⟨q, a14, _, nd, en, ak, wd, false, [], rfl, hN13.mono s14, ok, ho4, hA14, okA', T.wt_written _, List.forall_mem_nil _, by show 0 < ak.most; omega, fun v15 H15 s15 r15 => ?_⟩
      have s1315 := s14.trans s15
      have rW15 := RDue.mono _ _ _ _ s1315 rW
      walk_at "GO"
      have hgl := goD_len (nd := nd) (en := en) (ak := ak) (ak.most - ([] : List Nat).length) []
      have hgx := goD_lt (en := en) ok ho4 okA.plen.1 (ak.most - ([] : List Nat).length) [] (List.forall_mem_nil _)
      generalize goD nd en ak (ak.most - ([] : List Nat).length) [] = W at rW15 r15 hgl hgx rW
      have hgl : W.1.length ≤ ak.most := by
        have : ([] : List Nat).length = 0 := rfl
        omega
      refine ⟨_, _, rfl, due_sm (by omega) r15 rW15, ?_⟩
      have hL15 := s1315 _ _ hL13
      have rN15 := RNet.mono _ _ _ _ s1315 rN13
      have hN15 := hN13.mono s1315
      have rA15 := RAskT.mono _ _ _ _ s1315 rA13
      have s0115 := (s110.trans s11).trans (s1113.trans s1315)
      obtain ⟨wp, wt, rfl, hwp, hwt⟩ := id rW15
      clear hL13 rN13 hN13 rA13 hA14 s14 s15 s1315 s1113 s110 s11 r15 rW rW15
      walk_at "GO"
      rename_i q16 H16 hq16 s16 e16
      have hL16 := s16 _ _ hL15
      have hwp16 := s16.sq hwp
      have hwt16 := s16.sq hwt
      have rN16 := RNet.mono _ _ _ _ s16 rN15
      have hN16 := hN15.mono s16
      have rA16 := RAskT.mono _ _ _ _ s16 rA15
      have s0116 := s0115.trans s16
      obtain ⟨aq, ap, asp, atp, arv, rfl, haq, hap, hasp, hatp, harv⟩ := id rA16
      have haq : Sq false K H16 aq [.ref ap, .int ak.most, .ref asp, .ref atp, arv] := haq
      clear hL15 hwp hwt rN15 hN15 rA15 s16 s0115
      -- begun
      refine w_cut (fun σ H'' => ∃ (bp : Addr) (bg : List Nat), σ = [some (.ref a), some (.int (i : Nat)), some (.ref p), some (.ref pl), some (.int nd.p), some (.int (L : Nat)), some (.int (1 + nth ns 2 % 4)), some (.int my), some (.ref an), some (vN en), some (.ref q), some (.ref aq), some (.ref wp), some (.ref bp), y14, y15, y16, y17] ∧ Same H16 H'' ∧ Sq false K H'' bp ((natI bg).map V.int) ∧ (∀ l ∈ bg, l < nd.emb.length) ∧ bg.length < ak.most) ?_ ?_
      · walk_at "GO"
        refine w_iteD (fun h0 => ?_) (fun h0 => ?_)
        · walk_at "GO"
          have hmn : 1 ≤ (if ((ak.most : Nat) : Int) < 6 then ((ak.most : Nat) : Int) else 6) ∧ (if ((ak.most : Nat) : Int) < 6 then ((ak.most : Nat) : Int) else 6) ≤ ak.most ∧ (if ((ak.most : Nat) : Int) < 6 then ((ak.most : Nat) : Int) else 6) ≤ 6 := by split <;> omega
          have g1 := Int.emod_nonneg (nth ns 194) (b := (if ((ak.most : Nat) : Int) < 6 then ((ak.most : Nat) : Int) else 6)) (by omega)
          have g2 := Int.emod_lt_of_pos (nth ns 194) (b := (if ((ak.most : Nat) : Int) < 6 then ((ak.most : Nat) : Int) else 6)) (by omega)
          obtain ⟨n, hn1, hn2, hn3⟩ : ∃ n : Nat, nth ns 194 % (if ((ak.most : Nat) : Int) < 6 then ((ak.most : Nat) : Int) else 6) = (n : Int) ∧ n < ak.most ∧ n < 6 := ⟨(nth ns 194 % (if ((ak.most : Nat) : Int) < 6 then ((ak.most : Nat) : Int) else 6)).toNat, by omega, by omega, by omega⟩
          rw [hn1]
          refine c_intsR (by omega) (by omega) (natI (letP ns L 60 n)) (by rw [natI_len, letP_len, Int.toNat_natCast]) (fun _ => rfl) (fun j H17 M hj s17 hM => ?_) (fun D H17 hD s17 e17 => ?_)
          · have hL17 := s17 _ _ hL16
            walk_at "GO"
            rw [← letP_nth (n := n) (by omega) (by omega)]
            exact hM _ (Same.refl _)
          have hpl' := letP_len ns L 60 n
          have hpx := letP_lt (ns := ns) (L := L) (o := 60) (n := n) (by omega)
          walk_at "GO"
          rename_i q18 H18 hq18 s18 e18
          exact ⟨q18, letP ns L 60 n, rfl, s17.trans s18, Sq.tup e18, by rw [heL]; exact hpx, by omega⟩
        · walk_at "GO"
          exact ⟨q16, [], rfl, Same.refl _, Sq.tup e16, List.forall_mem_nil _, by show 0 < ak.most; omega⟩
      rintro σ H17 ⟨bp1, bg1, rfl, s17, hbp1, hbx1, hbl1⟩
      have hL17 := s17 _ _ hL16
      have hwp17 := s17.sq hwp16
      have hwt17 := s17.sq hwt16
      have haq17 := s17.sq haq
      refine w_cut (fun σ H'' => ∃ (bp : Addr) (bg : List Nat), σ = [some (.ref a), some (.int (i : Nat)), some (.ref p), some (.ref pl), some (.int nd.p), some (.int (L : Nat)), some (.int (1 + nth ns 2 % 4)), some (.int my), some (.ref an), some (vN en), some (.ref q), some (.ref aq), some (.ref wp), some (.ref bp), y14, y15, y16, y17] ∧ Same H17 H'' ∧ Sq false K H'' bp ((natI bg).map V.int) ∧ (∀ l ∈ bg, l < nd.emb.length) ∧ bg.length < ak.most) ?_ ?_
      · walk_at "GO"
        refine w_iteD (fun h0 => ?_) (fun h0 => ?_)
        · walk_at "GO"
          rw [natI_len]
          have g1 := Int.emod_nonneg (nth ns 194) (b := ((W.1.length : Nat) : Int) + 1) (by omega)
          have g2 := Int.emod_lt_of_pos (nth ns 194) (b := ((W.1.length : Nat) : Int) + 1) (by omega)
          obtain ⟨n, hn1, hn2⟩ : ∃ n : Nat, nth ns 194 % (((W.1.length : Nat) : Int) + 1) = (n : Int) ∧ n ≤ W.1.length := ⟨(nth ns 194 % (((W.1.length : Nat) : Int) + 1)).toNat, by omega, by omega⟩
          rw [hn1]
          refine w_slAny (ys := (natI (W.1.take n)).map V.int) hwt17 (by rw [cutV_upto (by rw [List.length_map, natI_len]; omega), natI_takeV]) fun q18 H18 s18 hq18 => ?_
          have haq18 := s18.sq haq17
          walk_at "GO"
          refine w_slAny (ys := (natI ((W.1.take n).take (ak.most - 1))).map V.int) hq18 (by rw [show ((ak.most : Nat) : Int) - 1 = ((ak.most - 1 : Nat) : Int) by omega, cutV_toN, natI_takeV]) fun q19 H19 s19 hq19 => ?_
          walk_at "GO"
          exact ⟨q19, _, rfl, s18.trans s19, hq19, fun l h => hgx l (List.mem_of_mem_take (List.mem_of_mem_take h)), by rw [List.length_take]; omega⟩
        · walk_at "GO"
          exact ⟨bp1, bg1, rfl, Same.refl _, hbp1, hbx1, hbl1⟩
      clear hbp1 hbx1 hbl1 haq17 hwt17 hwp17 haq hap hasp hatp harv hwp16 hwt16 e16 hq16
      rintro σ H18 ⟨bp, bg, rfl, s18, hbp, hbx, hbl⟩
      have hL18 := s18 _ _ hL17
      have s1618 := s17.trans s18
      have rN18 := RNet.mono _ _ _ _ s1618 rN16
      have hN18 := hN16.mono s1618
      have rA18 := RAskT.mono _ _ _ _ s1618 rA16
      have s0118 := s0116.trans s1618
      clear hL16 hL17 rN16 hN16 rA16 s17 s18 s1618 s0116 bp1 bg1
      walk_at "GO"
      refine w_cut (fun σ H'' => ∃ (hd : Addr) (b : Bool), σ = [some (.ref a), some (.int (i : Nat)), some (.ref p), some (.ref pl), some (.int nd.p), some (.int (L : Nat)), some (.int (1 + nth ns 2 % 4)), some (.int my), some (.ref an), some (vN en), some (.ref q), some (.ref aq), some (.ref wp), some (.ref bp), some (.ref hd), y15, y16, y17] ∧ Same H18 H'' ∧ Sq b K H'' hd ((natI bg).map V.int)) ?_ ?_
      · walk_at "GO"
        refine w_iteD (fun h0 => ?_) (fun h0 => ?_)
        · walk_at "GO"
          rename_i q19 H19 hq19 s19 e19
          exact ⟨q19, true, rfl, s19, Sq.lst e19⟩
        · walk_at "GO"
          exact ⟨bp, false, rfl, Same.refl _, hbp⟩
      rintro σ H19 ⟨hd, hb, rfl, s19, hhd⟩
      have hL19 := s19 _ _ hL18
      have rN19 := RNet.mono _ _ _ _ s19 rN18
      have hN19 := hN18.mono s19
      have rA19 := RAskT.mono _ _ _ _ s19 rA18
      have hbp19 := s19.sq hbp
      clear hL18 rN18 hN18 rA18 hbp
      walk_at "GO"
      refine w_callN ?_
      walk_at "GO"
      refine ⟨.ref aq, ak.v, L, rfl, rA19, hmo.1, hmo.2, by show (stopsV ak.stops).length ≤ 100; rw [stopsV_len]; omega, rule_ok, fun a20 H20 s20 hA20 => ?_⟩
      have hL20 := s20 _ _ hL19
      have rN20 := RNet.mono _ _ _ _ s20 rN19
      have hN20 := hN19.mono s20
      have rA20 := RAskT.mono _ _ _ _ s20 rA19
      have hbp20 := s20.sq hbp19
      have hhd20 := s20.sq hhd
      clear hL19 rN19 hN19 rA19 hbp19
      walk_at "GO"
      refine ⟨rfl, rfl, q, a20, hd, nd, en, ak, wd, hb, bg, rfl, hN20, ok, ho4, hA20, okA', hhd20, hbx, hbl, fun v21 H21 s21 r21 => ?_⟩
      walk_at "GO"
      refine ⟨.ref an, .ref aq, .ref bp, nd, en, ak, wd, bg, rfl, RNet.mono _ _ _ _ s21 rN20, ok, ho4, by omega, RAskT.mono _ _ _ _ s21 rA20, okA', ⟨bp, rfl, s21.sq hbp20⟩, hbx, hbl, fun v22 H22 s22 r22 => ?_⟩
      have s2022 := s21.trans s22
      walk_at "GO"
      have hgl2 := goD_len (nd := nd) (en := en) (ak := ak) (ak.most - bg.length) bg
      refine ⟨_, _, rfl, due_sm (by omega) (RDue.mono _ _ _ _ s22 r21) r22, ?_⟩
      have hL22 := s2022 _ _ hL20
      have hN22 := hN20.mono s2022
      have rA22 := RAskT.mono _ _ _ _ s2022 rA20
      have hbp22 := s2022.sq hbp20
      have hhd22 := s2022.sq hhd20
      have s0122 := ((s0118.trans s19).trans s20).trans s2022
      clear hL20 rN20 hN20 rA20 hbp20 hhd20 r21 r22 s21 s22 s2022 s19 s20 s0118 hA20 hhd hgl2
      walk_at "GO"
      rename_i q23 H23 hq23 s23 e23 q24 H24 hq24 s24 e24
      refine w_neInts (ns := natI bg) (Sq.lst (s24 _ _ e23)) (Sq.lst e24) ?_
      have s2224 := s23.trans s24
      have hL24 := s2224 _ _ hL22
      have hN24 := hN22.mono s2224
      have rA24 := RAskT.mono _ _ _ _ s2224 rA22
      have hbp24 := s2224.sq hbp22
      have s0124 := s0122.trans s2224
      clear hL22 hN22 rA22 hbp22 hhd22 e23 e24 s23 s24 s2224 s0122
      -- spoilt
      have hgood := rows_good (L := L) okA (bg := bg) (by rw [← heL]; exact hbx)
      have hlets : ∀ (H' : Hp), ∀ r ∈ rowsOf ak.v ((natI bg).map V.int), ∀ y ∈ r, LetS K H' y := fun H' r hr' y hy => by
        obtain ⟨l, rfl, hl⟩ := hgood r hr' y hy
        exact LetS.small (by omega)
      walk_at "GO"
      refine ⟨p, ns, .ref aq, ak.v, bp, (natI bg).map V.int, L, rfl, hL24, by omega, hnb, rA24, hbp24, by show 1 ≤ ((natI ak.prompt).map V.int).length; rw [List.length_map, natI_len]; exact okA.plen.1, by show ((natI ak.prompt).map V.int).length ≤ 100; rw [List.length_map, natI_len]; omega, by rw [List.length_map, natI_len]; omega, by show (stopsV ak.stops).length ≤ 100; rw [stopsV_len]; omega, fun r hr' => ?_, hlets H24, by omega, fun t q2 bp2 av2 bg2 H25 s25 ht rA2 hbp2 hm2 hru2 hpl2 hbl2 hsl2 hsr2 hlets2 => ?_⟩
      · obtain ⟨st, hst, rfl⟩ := List.mem_map.mp (show r ∈ ak.stops.map fun s => (natI s).map V.int from hr')
        have := okA.stops st hst
        rw [List.length_map, natI_len]
        omega
      have hN25 := hN24.mono s25
      have s0125 := s0124.trans s25
      clear hL24 hN24 rA24 hbp24 hlets hgood s25 s0124
      walk_at "GO"
      refine ⟨.ref q2, av2, bp2, bg2, L, rfl, rA2, hbp2, hsl2, fun r hr' => ⟨?_, hlets2 r hr'⟩, fun D H26 bs s26 e26 hbs => ?_⟩
      · rcases List.mem_cons.mp hr' with rfl | hr'
        · exact hpl2
        rcases List.mem_append.mp hr' with hr' | hr'
        · exact hsr2 r hr'
        · rw [List.mem_singleton.mp hr']; exact hbl2
      have hN26 := hN25.mono s26
      have ht26 := s26.sq ht
      have rA26 := RAskT.mono _ _ _ _ s26 rA2
      have hbp26 := s26.sq hbp2
      have hE26 := Sq.lst (K := K) e26
      have s0126 := s0125.trans s26
      walk_at "GO"
      rcases hbs with ⟨rfl, _⟩ | ⟨x, rfl, hfb⟩
      · walk_at "GO"
        exact ⟨_, _, _, _, _, _, _, _, _, _, _, _, _, _, _, _, _, rfl, (sm.trans s1).trans s0126⟩
      · walk_at "GO"
        refine w_iteD (fun _ => ?_) (fun h0 => absurd (show (0 : Int) < (([x] : List V).length : Int) from Int.one_pos) h0)
        walk_at "GO"
        refine ⟨.ref q2, av2, L, rfl, rA26, by rw [hm2]; exact hmo.1, by rw [hm2]; exact hmo.2, hsl2, by rw [hru2]; exact rule_ok, fun a27 H27 s27 hA27 => ?_⟩
        have ht27 := s27.sq ht26
        have e27 := s27 _ _ e26
        have hE27 := Sq.lst (K := K) e27
        clear ht26 hE26
        walk_at "GO"
        refine ⟨q, a27, bp2, nd, _, av2, bg2, x, rfl, hN26.mono s27, hA27, s27.sq hbp26, hsl2, fun r hr' y hy => (hlets2 r hr' y hy).mono (s26.trans s27), by rw [heL]; exact hfb, fun H28 s28 => ?_⟩
        walk_at "GO"
        exact ⟨_, _, _, _, _, _, _, _, _, _, _, _, _, _, _, _, _, rfl, ((sm.trans s1).trans s0126).trans (s27.trans s28)⟩
    · rintro σ H' ⟨y1, y2, y3, y4, y5, y6, y7, y8, y9, y10, y11, y12, y13, y14, y15, y16, y17, rfl, sm⟩
      walk_at "GO"
      exact k _

end
theorem all_mk {l : PySem.W.OpenLaw} {w : World} {K : PySem.W.Frag} {h : Heap} {mg : Str → Option Value} {fa CNet CAsk CRule CServeError CInvalidNumber CInvalidLetter CNoHouse CNoRequest CNoRoom CNotAlone CNotHeld CTooLarge KPRIMES fInvalidLetter___init__ frows_of fcheck_letters fstop_length fnext_text fwritten Dwritten Wwritten fis_between fvector_of fmatrix_of fproduct_sum fNet___init__ fNet_is_letter fNet_rest fNet_times fNet_plus fNet_looked_at fNet_row fgreatest fby_number fAsk___init__ fAsk_let_weights fAsk_choice fRule___init__ fRule_after fRule_lets fL_numbers fL_same fL_vector fL_net fL_dot fL_times fL_row fL_rows fL_after fL_counted fL_choice fL_rule fL_stops fL_tape fL_ask fL_ends fL_stopped fL_written fL_made fL_odd fL_put fL_spoilt fL_first_bad fL_refuses flaw : Addr} (X : K.In h) (G : h.Ns mainGlobals mg) (hfa : mg "law" = some (.ref fa))
    {odKPRIMES odInvalidLetter___init__ anInvalidLetter___init__ odrows_of anrows_of odcheck_letters ancheck_letters odstop_length anstop_length odnext_text annext_text odwritten anwritten oWwritten odis_between anis_between odvector_of anvector_of odmatrix_of anmatrix_of odproduct_sum anproduct_sum odNet___init__ anNet___init__ odNet_is_letter anNet_is_letter odNet_rest anNet_rest odNet_times anNet_times odNet_plus anNet_plus odNet_looked_at anNet_looked_at odNet_row anNet_row odgreatest angreatest odby_number anby_number odAsk___init__ anAsk___init__ odAsk_let_weights anAsk_let_weights odAsk_choice anAsk_choice odRule___init__ anRule___init__ odRule_after anRule_after odRule_lets anRule_lets odL_numbers anL_numbers odL_same anL_same odL_vector anL_vector odL_net anL_net odL_dot anL_dot odL_times anL_times odL_row anL_row odL_rows anL_rows odL_after anL_after odL_counted anL_counted odL_choice anL_choice odL_rule anL_rule odL_stops anL_stops odL_tape anL_tape odL_ask anL_ask odL_ends anL_ends odL_stopped anL_stopped odL_written anL_written odL_made anL_made odL_odd anL_odd odL_put anL_put odL_spoilt anL_spoilt odL_first_bad anL_first_bad odL_refuses anL_refuses odlaw anlaw : Option Addr} {slKPRIMES slInvalidLetter___init__ slrows_of slcheck_letters slstop_length slnext_text slwritten sWwritten slis_between slvector_of slmatrix_of slproduct_sum slNet___init__ slNet_is_letter slNet_rest slNet_times slNet_plus slNet_looked_at slNet_row slgreatest slby_number slAsk___init__ slAsk_let_weights slAsk_choice slRule___init__ slRule_after slRule_lets slL_numbers slL_same slL_vector slL_net slL_dot slL_times slL_row slL_rows slL_after slL_counted slL_choice slL_rule slL_stops slL_tape slL_ask slL_ends slL_stopped slL_written slL_made slL_odd slL_put slL_spoilt slL_first_bad slL_refuses sllaw : Array (Option Value)} {ocInvalidLetter___init__ kVInvalidLetter___init__ dcInvalidLetter___init__ pmInvalidLetter___init__ cdInvalidLetter___init__ ctInvalidLetter___init__ ocrows_of kVrows_of dcrows_of pmrows_of cdrows_of ctrows_of occheck_letters kVcheck_letters dccheck_letters pmcheck_letters cdcheck_letters ctcheck_letters ocstop_length kVstop_length dcstop_length pmstop_length cdstop_length ctstop_length ocnext_text kVnext_text dcnext_text pmnext_text cdnext_text ctnext_text ocwritten dcwritten pmwritten cdwritten ctwritten ocis_between kVis_between dcis_between pmis_between cdis_between ctis_between ocvector_of kVvector_of dcvector_of pmvector_of cdvector_of ctvector_of ocmatrix_of kVmatrix_of dcmatrix_of pmmatrix_of cdmatrix_of ctmatrix_of ocproduct_sum kVproduct_sum dcproduct_sum pmproduct_sum cdproduct_sum ctproduct_sum ocNet___init__ kVNet___init__ dcNet___init__ pmNet___init__ cdNet___init__ ctNet___init__ ocNet_is_letter kVNet_is_letter dcNet_is_letter pmNet_is_letter cdNet_is_letter ctNet_is_letter ocNet_rest kVNet_rest dcNet_rest pmNet_rest cdNet_rest ctNet_rest ocNet_times kVNet_times dcNet_times pmNet_times cdNet_times ctNet_times ocNet_plus kVNet_plus dcNet_plus pmNet_plus cdNet_plus ctNet_plus ocNet_looked_at kVNet_looked_at dcNet_looked_at pmNet_looked_at cdNet_looked_at ctNet_looked_at ocNet_row kVNet_row dcNet_row pmNet_row cdNet_row ctNet_row ocgreatest kVgreatest dcgreatest pmgreatest cdgreatest ctgreatest ocby_number kVby_number dcby_number pmby_number cdby_number ctby_number ocAsk___init__ kVAsk___init__ dcAsk___init__ pmAsk___init__ cdAsk___init__ ctAsk___init__ ocAsk_let_weights kVAsk_let_weights dcAsk_let_weights pmAsk_let_weights cdAsk_let_weights ctAsk_let_weights ocAsk_choice kVAsk_choice dcAsk_choice pmAsk_choice cdAsk_choice ctAsk_choice ocRule___init__ kVRule___init__ dcRule___init__ pmRule___init__ cdRule___init__ ctRule___init__ ocRule_after kVRule_after dcRule_after pmRule_after cdRule_after ctRule_after ocRule_lets kVRule_lets dcRule_lets pmRule_lets cdRule_lets ctRule_lets ocL_numbers kVL_numbers dcL_numbers pmL_numbers cdL_numbers ctL_numbers ocL_same kVL_same dcL_same pmL_same cdL_same ctL_same ocL_vector kVL_vector dcL_vector pmL_vector cdL_vector ctL_vector ocL_net kVL_net dcL_net pmL_net cdL_net ctL_net ocL_dot kVL_dot dcL_dot pmL_dot cdL_dot ctL_dot ocL_times kVL_times dcL_times pmL_times cdL_times ctL_times ocL_row kVL_row dcL_row pmL_row cdL_row ctL_row ocL_rows kVL_rows dcL_rows pmL_rows cdL_rows ctL_rows ocL_after kVL_after dcL_after pmL_after cdL_after ctL_after ocL_counted kVL_counted dcL_counted pmL_counted cdL_counted ctL_counted ocL_choice kVL_choice dcL_choice pmL_choice cdL_choice ctL_choice ocL_rule kVL_rule dcL_rule pmL_rule cdL_rule ctL_rule ocL_stops kVL_stops dcL_stops pmL_stops cdL_stops ctL_stops ocL_tape kVL_tape dcL_tape pmL_tape cdL_tape ctL_tape ocL_ask kVL_ask dcL_ask pmL_ask cdL_ask ctL_ask ocL_ends kVL_ends dcL_ends pmL_ends cdL_ends ctL_ends ocL_stopped kVL_stopped dcL_stopped pmL_stopped cdL_stopped ctL_stopped ocL_written kVL_written dcL_written pmL_written cdL_written ctL_written ocL_made kVL_made dcL_made pmL_made cdL_made ctL_made ocL_odd kVL_odd dcL_odd pmL_odd cdL_odd ctL_odd ocL_put kVL_put dcL_put pmL_put cdL_put ctL_put ocL_spoilt kVL_spoilt dcL_spoilt pmL_spoilt cdL_spoilt ctL_spoilt ocL_first_bad kVL_first_bad dcL_first_bad pmL_first_bad cdL_first_bad ctL_first_bad ocL_refuses kVL_refuses dcL_refuses pmL_refuses cdL_refuses ctL_refuses oclaw kVlaw dclaw pmlaw cdlaw ctlaw : Value}
    {nmInvalidLetter qnInvalidLetter : Str} {NInvalidLetter : Addr} {bsInvalidLetter subInvalidLetter : List Value} {snInvalidLetter : List Str} {abInvalidLetter : Bool} {colInvalidLetter : Option Bool} {ddInvalidLetter : Option Addr} {m0InvalidLetter m1InvalidLetter m2InvalidLetter m3InvalidLetter m5InvalidLetter : Option Value}
    (aCNet : PySem.W.nsIn K mainGlobals "Net" = some (some (.ref CNet))) (pgNet : PySem.W.plainGet K CNet Str.empty = true) (hdNet : PySem.W.hasDictIn K CNet = true) (poNet : PySem.W.plainOver K CNet = true) (saNet : PySem.W.findIn K (.ref CNet) "__setattr__" = some (some (.builtin "object.__setattr__"))) (mkNet : PySem.W.makesIn K CNet = true) (kcNet : PySem.W.keepIn K (.ref CNet) = true)
    (nNet_prime : PySem.W.findIn K (.ref CNet) "prime" = some none)
    (nNet_embed : PySem.W.findIn K (.ref CNet) "embed" = some none)
    (nNet_shift : PySem.W.findIn K (.ref CNet) "shift" = some none)
    (nNet_layers : PySem.W.findIn K (.ref CNet) "layers" = some none)
    (nNet_out : PySem.W.findIn K (.ref CNet) "out" = some none)
    (nNet_end : PySem.W.findIn K (.ref CNet) "end" = some none)
    (aCAsk : PySem.W.nsIn K mainGlobals "Ask" = some (some (.ref CAsk))) (pgAsk : PySem.W.plainGet K CAsk Str.empty = true) (hdAsk : PySem.W.hasDictIn K CAsk = true) (poAsk : PySem.W.plainOver K CAsk = true) (saAsk : PySem.W.findIn K (.ref CAsk) "__setattr__" = some (some (.builtin "object.__setattr__"))) (mkAsk : PySem.W.makesIn K CAsk = true) (kcAsk : PySem.W.keepIn K (.ref CAsk) = true)
    (nAsk_prompt : PySem.W.findIn K (.ref CAsk) "prompt" = some none)
    (nAsk_most : PySem.W.findIn K (.ref CAsk) "most" = some none)
    (nAsk_stops : PySem.W.findIn K (.ref CAsk) "stops" = some none)
    (nAsk_tape : PySem.W.findIn K (.ref CAsk) "tape" = some none)
    (nAsk_rule : PySem.W.findIn K (.ref CAsk) "rule" = some none)
    (aCRule : PySem.W.nsIn K mainGlobals "Rule" = some (some (.ref CRule))) (pgRule : PySem.W.plainGet K CRule Str.empty = true) (hdRule : PySem.W.hasDictIn K CRule = true) (poRule : PySem.W.plainOver K CRule = true) (saRule : PySem.W.findIn K (.ref CRule) "__setattr__" = some (some (.builtin "object.__setattr__"))) (mkRule : PySem.W.makesIn K CRule = true) (kcRule : PySem.W.keepIn K (.ref CRule) = true)
    (nRule_start : PySem.W.findIn K (.ref CRule) "start" = some none)
    (nRule_steps : PySem.W.findIn K (.ref CRule) "steps" = some none)
    (aCServeError : PySem.W.nsIn K mainGlobals "ServeError" = some (some (.ref CServeError))) (eiServeError : PySem.W.isClsIn K CServeError = true) (etServeError : PySem.W.typeIn K (.ref CServeError) = some (.type "type")) (ebServeError : PySem.W.subIn K (.ref CServeError) (.type "BaseException") = some true) (ehServeError : PySem.W.hasDictIn K CServeError = true)
    (aCInvalidNumber : PySem.W.nsIn K mainGlobals "InvalidNumber" = some (some (.ref CInvalidNumber))) (eiInvalidNumber : PySem.W.isClsIn K CInvalidNumber = true) (etInvalidNumber : PySem.W.typeIn K (.ref CInvalidNumber) = some (.type "type")) (ebInvalidNumber : PySem.W.subIn K (.ref CInvalidNumber) (.type "BaseException") = some true) (ehInvalidNumber : PySem.W.hasDictIn K CInvalidNumber = true)
    (aCInvalidLetter : PySem.W.nsIn K mainGlobals "InvalidLetter" = some (some (.ref CInvalidLetter))) (eiInvalidLetter : PySem.W.isClsIn K CInvalidLetter = true) (etInvalidLetter : PySem.W.typeIn K (.ref CInvalidLetter) = some (.type "type")) (ebInvalidLetter : PySem.W.subIn K (.ref CInvalidLetter) (.type "BaseException") = some true) (ehInvalidLetter : PySem.W.hasDictIn K CInvalidLetter = true)
    (aCNoHouse : PySem.W.nsIn K mainGlobals "NoHouse" = some (some (.ref CNoHouse))) (eiNoHouse : PySem.W.isClsIn K CNoHouse = true) (etNoHouse : PySem.W.typeIn K (.ref CNoHouse) = some (.type "type")) (ebNoHouse : PySem.W.subIn K (.ref CNoHouse) (.type "BaseException") = some true) (ehNoHouse : PySem.W.hasDictIn K CNoHouse = true)
    (aCNoRequest : PySem.W.nsIn K mainGlobals "NoRequest" = some (some (.ref CNoRequest))) (eiNoRequest : PySem.W.isClsIn K CNoRequest = true) (etNoRequest : PySem.W.typeIn K (.ref CNoRequest) = some (.type "type")) (ebNoRequest : PySem.W.subIn K (.ref CNoRequest) (.type "BaseException") = some true) (ehNoRequest : PySem.W.hasDictIn K CNoRequest = true)
    (aCNoRoom : PySem.W.nsIn K mainGlobals "NoRoom" = some (some (.ref CNoRoom))) (eiNoRoom : PySem.W.isClsIn K CNoRoom = true) (etNoRoom : PySem.W.typeIn K (.ref CNoRoom) = some (.type "type")) (ebNoRoom : PySem.W.subIn K (.ref CNoRoom) (.type "BaseException") = some true) (ehNoRoom : PySem.W.hasDictIn K CNoRoom = true)
    (aCNotAlone : PySem.W.nsIn K mainGlobals "NotAlone" = some (some (.ref CNotAlone))) (eiNotAlone : PySem.W.isClsIn K CNotAlone = true) (etNotAlone : PySem.W.typeIn K (.ref CNotAlone) = some (.type "type")) (ebNotAlone : PySem.W.subIn K (.ref CNotAlone) (.type "BaseException") = some true) (ehNotAlone : PySem.W.hasDictIn K CNotAlone = true)
    (aCNotHeld : PySem.W.nsIn K mainGlobals "NotHeld" = some (some (.ref CNotHeld))) (eiNotHeld : PySem.W.isClsIn K CNotHeld = true) (etNotHeld : PySem.W.typeIn K (.ref CNotHeld) = some (.type "type")) (ebNotHeld : PySem.W.subIn K (.ref CNotHeld) (.type "BaseException") = some true) (ehNotHeld : PySem.W.hasDictIn K CNotHeld = true)
    (aCTooLarge : PySem.W.nsIn K mainGlobals "TooLarge" = some (some (.ref CTooLarge))) (eiTooLarge : PySem.W.isClsIn K CTooLarge = true) (etTooLarge : PySem.W.typeIn K (.ref CTooLarge) = some (.type "type")) (ebTooLarge : PySem.W.subIn K (.ref CTooLarge) (.type "BaseException") = some true) (ehTooLarge : PySem.W.hasDictIn K CTooLarge = true)
    (aKPRIMES : PySem.W.nsIn K mainGlobals "PRIMES" = some (some (.ref KPRIMES))) {itKPRIMES : Array Value} {nKPRIMES : Nat} (lKPRIMES : K.lookup KPRIMES = some ⟨.type "tuple", odKPRIMES, .seq itKPRIMES nKPRIMES, slKPRIMES⟩) (vKPRIMES : itKPRIMES.size ≤ sizeLine ∧ Vals [.int 2, .int 3, .int 5, .int 7, .int 11, .int 13, .int 17, .int 19, .int 23, .int 29, .int 31, .int 37, .int 41, .int 43, .int 47, .int 53, .int 59, .int 61, .int 67, .int 71, .int 73, .int 79, .int 83, .int 89, .int 97] itKPRIMES.toList)
    {tKMOST_LETTERS : Tok} (aKMOST_LETTERS : PySem.W.nsIn K mainGlobals "MOST_LETTERS" = some (some (.int 30 tKMOST_LETTERS)))
    (aInvalidLetter___init__ : PySem.W.findIn K (.ref CInvalidLetter) "__init__" = some (some (.ref fInvalidLetter___init__))) (iInvalidLetter___init__ : PySem.W.isFn K (.ref fInvalidLetter___init__) = true) (lInvalidLetter___init__ : K.lookup fInvalidLetter___init__ = some ⟨ocInvalidLetter___init__, odInvalidLetter___init__, .func (PySem.W.fnOf "__init__" "InvalidLetter.__init__" (defArgs s_InvalidLetter___init__) (defBody s_InvalidLetter___init__) (defScope s_InvalidLetter___init__) .none kVInvalidLetter___init__ dcInvalidLetter___init__ pmInvalidLetter___init__ anInvalidLetter___init__ cdInvalidLetter___init__ ctInvalidLetter___init__), slInvalidLetter___init__⟩) (cInvalidLetter___init__ : PySem.W.codeIn K cdInvalidLetter___init__ "InvalidLetter.__init__" = true) (kInvalidLetter___init__ : PySem.W.keepIn K (.ref fInvalidLetter___init__) = true)
    (arows_of : PySem.W.nsIn K mainGlobals "rows_of" = some (some (.ref frows_of))) (lrows_of : K.lookup frows_of = some ⟨ocrows_of, odrows_of, .func (PySem.W.fnOf "rows_of" "rows_of" (defArgs s_rows_of) (defBody s_rows_of) (defScope s_rows_of) .none kVrows_of dcrows_of pmrows_of anrows_of cdrows_of ctrows_of), slrows_of⟩) (crows_of : PySem.W.codeIn K cdrows_of "rows_of" = true) (krows_of : PySem.W.keepIn K (.ref frows_of) = true)
    (acheck_letters : PySem.W.nsIn K mainGlobals "check_letters" = some (some (.ref fcheck_letters))) (lcheck_letters : K.lookup fcheck_letters = some ⟨occheck_letters, odcheck_letters, .func (PySem.W.fnOf "check_letters" "check_letters" (defArgs s_check_letters) (defBody s_check_letters) (defScope s_check_letters) .none kVcheck_letters dccheck_letters pmcheck_letters ancheck_letters cdcheck_letters ctcheck_letters), slcheck_letters⟩) (ccheck_letters : PySem.W.codeIn K cdcheck_letters "check_letters" = true) (kcheck_letters : PySem.W.keepIn K (.ref fcheck_letters) = true)
    (astop_length : PySem.W.nsIn K mainGlobals "stop_length" = some (some (.ref fstop_length))) (lstop_length : K.lookup fstop_length = some ⟨ocstop_length, odstop_length, .func (PySem.W.fnOf "stop_length" "stop_length" (defArgs s_stop_length) (defBody s_stop_length) (defScope s_stop_length) .none kVstop_length dcstop_length pmstop_length anstop_length cdstop_length ctstop_length), slstop_length⟩) (cstop_length : PySem.W.codeIn K cdstop_length "stop_length" = true) (kstop_length : PySem.W.keepIn K (.ref fstop_length) = true)
    (anext_text : PySem.W.nsIn K mainGlobals "next_text" = some (some (.ref fnext_text))) (lnext_text : K.lookup fnext_text = some ⟨ocnext_text, odnext_text, .func (PySem.W.fnOf "next_text" "next_text" (defArgs s_next_text) (defBody s_next_text) (defScope s_next_text) .none kVnext_text dcnext_text pmnext_text annext_text cdnext_text ctnext_text), slnext_text⟩) (cnext_text : PySem.W.codeIn K cdnext_text "next_text" = true) (knext_text : PySem.W.keepIn K (.ref fnext_text) = true)
    (awritten : PySem.W.nsIn K mainGlobals "written" = some (some (.ref fwritten))) (lwritten : K.lookup fwritten = some ⟨ocwritten, odwritten, .func (PySem.W.fnOf "written" "written" (defArgs s_written) (defBody s_written) (defScope s_written) .none (.ref Dwritten) dcwritten pmwritten anwritten cdwritten ctwritten), slwritten⟩) (cwritten : PySem.W.codeIn K cdwritten "written" = true) (kwritten : PySem.W.keepIn K (.ref fwritten) = true)
    {nWwritten : Nat} (kdwritten : PySem.W.nsIn K Dwritten "begun" = some (some (.ref Wwritten))) (kwwritten : K.lookup Wwritten = some ⟨.type "tuple", oWwritten, .seq #[] nWwritten, sWwritten⟩)
    (ais_between : PySem.W.nsIn K mainGlobals "is_between" = some (some (.ref fis_between))) (lis_between : K.lookup fis_between = some ⟨ocis_between, odis_between, .func (PySem.W.fnOf "is_between" "is_between" (defArgs s_is_between) (defBody s_is_between) (defScope s_is_between) .none kVis_between dcis_between pmis_between anis_between cdis_between ctis_between), slis_between⟩) (cis_between : PySem.W.codeIn K cdis_between "is_between" = true) (kis_between : PySem.W.keepIn K (.ref fis_between) = true)
    (avector_of : PySem.W.nsIn K mainGlobals "vector_of" = some (some (.ref fvector_of))) (lvector_of : K.lookup fvector_of = some ⟨ocvector_of, odvector_of, .func (PySem.W.fnOf "vector_of" "vector_of" (defArgs s_vector_of) (defBody s_vector_of) (defScope s_vector_of) .none kVvector_of dcvector_of pmvector_of anvector_of cdvector_of ctvector_of), slvector_of⟩) (cvector_of : PySem.W.codeIn K cdvector_of "vector_of" = true) (kvector_of : PySem.W.keepIn K (.ref fvector_of) = true)
    (amatrix_of : PySem.W.nsIn K mainGlobals "matrix_of" = some (some (.ref fmatrix_of))) (lmatrix_of : K.lookup fmatrix_of = some ⟨ocmatrix_of, odmatrix_of, .func (PySem.W.fnOf "matrix_of" "matrix_of" (defArgs s_matrix_of) (defBody s_matrix_of) (defScope s_matrix_of) .none kVmatrix_of dcmatrix_of pmmatrix_of anmatrix_of cdmatrix_of ctmatrix_of), slmatrix_of⟩) (cmatrix_of : PySem.W.codeIn K cdmatrix_of "matrix_of" = true) (kmatrix_of : PySem.W.keepIn K (.ref fmatrix_of) = true)
    (aproduct_sum : PySem.W.nsIn K mainGlobals "product_sum" = some (some (.ref fproduct_sum))) (lproduct_sum : K.lookup fproduct_sum = some ⟨ocproduct_sum, odproduct_sum, .func (PySem.W.fnOf "product_sum" "product_sum" (defArgs s_product_sum) (defBody s_product_sum) (defScope s_product_sum) .none kVproduct_sum dcproduct_sum pmproduct_sum anproduct_sum cdproduct_sum ctproduct_sum), slproduct_sum⟩) (cproduct_sum : PySem.W.codeIn K cdproduct_sum "product_sum" = true) (kproduct_sum : PySem.W.keepIn K (.ref fproduct_sum) = true)
    (aNet___init__ : PySem.W.findIn K (.ref CNet) "__init__" = some (some (.ref fNet___init__))) (iNet___init__ : PySem.W.isFn K (.ref fNet___init__) = true) (lNet___init__ : K.lookup fNet___init__ = some ⟨ocNet___init__, odNet___init__, .func (PySem.W.fnOf "__init__" "Net.__init__" (defArgs s_Net___init__) (defBody s_Net___init__) (defScope s_Net___init__) .none kVNet___init__ dcNet___init__ pmNet___init__ anNet___init__ cdNet___init__ ctNet___init__), slNet___init__⟩) (cNet___init__ : PySem.W.codeIn K cdNet___init__ "Net.__init__" = true) (kNet___init__ : PySem.W.keepIn K (.ref fNet___init__) = true)
    (aNet_is_letter : PySem.W.findIn K (.ref CNet) "is_letter" = some (some (.ref fNet_is_letter))) (iNet_is_letter : PySem.W.isFn K (.ref fNet_is_letter) = true) (lNet_is_letter : K.lookup fNet_is_letter = some ⟨ocNet_is_letter, odNet_is_letter, .func (PySem.W.fnOf "is_letter" "Net.is_letter" (defArgs s_Net_is_letter) (defBody s_Net_is_letter) (defScope s_Net_is_letter) .none kVNet_is_letter dcNet_is_letter pmNet_is_letter anNet_is_letter cdNet_is_letter ctNet_is_letter), slNet_is_letter⟩) (cNet_is_letter : PySem.W.codeIn K cdNet_is_letter "Net.is_letter" = true) (kNet_is_letter : PySem.W.keepIn K (.ref fNet_is_letter) = true)
    (aNet_rest : PySem.W.findIn K (.ref CNet) "rest" = some (some (.ref fNet_rest))) (iNet_rest : PySem.W.isFn K (.ref fNet_rest) = true) (lNet_rest : K.lookup fNet_rest = some ⟨ocNet_rest, odNet_rest, .func (PySem.W.fnOf "rest" "Net.rest" (defArgs s_Net_rest) (defBody s_Net_rest) (defScope s_Net_rest) .none kVNet_rest dcNet_rest pmNet_rest anNet_rest cdNet_rest ctNet_rest), slNet_rest⟩) (cNet_rest : PySem.W.codeIn K cdNet_rest "Net.rest" = true) (kNet_rest : PySem.W.keepIn K (.ref fNet_rest) = true)
    (aNet_times : PySem.W.findIn K (.ref CNet) "times" = some (some (.ref fNet_times))) (iNet_times : PySem.W.isFn K (.ref fNet_times) = true) (lNet_times : K.lookup fNet_times = some ⟨ocNet_times, odNet_times, .func (PySem.W.fnOf "times" "Net.times" (defArgs s_Net_times) (defBody s_Net_times) (defScope s_Net_times) .none kVNet_times dcNet_times pmNet_times anNet_times cdNet_times ctNet_times), slNet_times⟩) (cNet_times : PySem.W.codeIn K cdNet_times "Net.times" = true) (kNet_times : PySem.W.keepIn K (.ref fNet_times) = true)
    (aNet_plus : PySem.W.findIn K (.ref CNet) "plus" = some (some (.ref fNet_plus))) (iNet_plus : PySem.W.isFn K (.ref fNet_plus) = true) (lNet_plus : K.lookup fNet_plus = some ⟨ocNet_plus, odNet_plus, .func (PySem.W.fnOf "plus" "Net.plus" (defArgs s_Net_plus) (defBody s_Net_plus) (defScope s_Net_plus) .none kVNet_plus dcNet_plus pmNet_plus anNet_plus cdNet_plus ctNet_plus), slNet_plus⟩) (cNet_plus : PySem.W.codeIn K cdNet_plus "Net.plus" = true) (kNet_plus : PySem.W.keepIn K (.ref fNet_plus) = true)
    (aNet_looked_at : PySem.W.findIn K (.ref CNet) "looked_at" = some (some (.ref fNet_looked_at))) (iNet_looked_at : PySem.W.isFn K (.ref fNet_looked_at) = true) (lNet_looked_at : K.lookup fNet_looked_at = some ⟨ocNet_looked_at, odNet_looked_at, .func (PySem.W.fnOf "looked_at" "Net.looked_at" (defArgs s_Net_looked_at) (defBody s_Net_looked_at) (defScope s_Net_looked_at) .none kVNet_looked_at dcNet_looked_at pmNet_looked_at anNet_looked_at cdNet_looked_at ctNet_looked_at), slNet_looked_at⟩) (cNet_looked_at : PySem.W.codeIn K cdNet_looked_at "Net.looked_at" = true) (kNet_looked_at : PySem.W.keepIn K (.ref fNet_looked_at) = true)
    (aNet_row : PySem.W.findIn K (.ref CNet) "row" = some (some (.ref fNet_row))) (iNet_row : PySem.W.isFn K (.ref fNet_row) = true) (lNet_row : K.lookup fNet_row = some ⟨ocNet_row, odNet_row, .func (PySem.W.fnOf "row" "Net.row" (defArgs s_Net_row) (defBody s_Net_row) (defScope s_Net_row) .none kVNet_row dcNet_row pmNet_row anNet_row cdNet_row ctNet_row), slNet_row⟩) (cNet_row : PySem.W.codeIn K cdNet_row "Net.row" = true) (kNet_row : PySem.W.keepIn K (.ref fNet_row) = true)
    (agreatest : PySem.W.nsIn K mainGlobals "greatest" = some (some (.ref fgreatest))) (lgreatest : K.lookup fgreatest = some ⟨ocgreatest, odgreatest, .func (PySem.W.fnOf "greatest" "greatest" (defArgs s_greatest) (defBody s_greatest) (defScope s_greatest) .none kVgreatest dcgreatest pmgreatest angreatest cdgreatest ctgreatest), slgreatest⟩) (cgreatest : PySem.W.codeIn K cdgreatest "greatest" = true) (kgreatest : PySem.W.keepIn K (.ref fgreatest) = true)
    (aby_number : PySem.W.nsIn K mainGlobals "by_number" = some (some (.ref fby_number))) (lby_number : K.lookup fby_number = some ⟨ocby_number, odby_number, .func (PySem.W.fnOf "by_number" "by_number" (defArgs s_by_number) (defBody s_by_number) (defScope s_by_number) .none kVby_number dcby_number pmby_number anby_number cdby_number ctby_number), slby_number⟩) (cby_number : PySem.W.codeIn K cdby_number "by_number" = true) (kby_number : PySem.W.keepIn K (.ref fby_number) = true)
    (aAsk___init__ : PySem.W.findIn K (.ref CAsk) "__init__" = some (some (.ref fAsk___init__))) (iAsk___init__ : PySem.W.isFn K (.ref fAsk___init__) = true) (lAsk___init__ : K.lookup fAsk___init__ = some ⟨ocAsk___init__, odAsk___init__, .func (PySem.W.fnOf "__init__" "Ask.__init__" (defArgs s_Ask___init__) (defBody s_Ask___init__) (defScope s_Ask___init__) .none kVAsk___init__ dcAsk___init__ pmAsk___init__ anAsk___init__ cdAsk___init__ ctAsk___init__), slAsk___init__⟩) (cAsk___init__ : PySem.W.codeIn K cdAsk___init__ "Ask.__init__" = true) (kAsk___init__ : PySem.W.keepIn K (.ref fAsk___init__) = true)
    (aAsk_let_weights : PySem.W.findIn K (.ref CAsk) "let_weights" = some (some (.ref fAsk_let_weights))) (iAsk_let_weights : PySem.W.isFn K (.ref fAsk_let_weights) = true) (lAsk_let_weights : K.lookup fAsk_let_weights = some ⟨ocAsk_let_weights, odAsk_let_weights, .func (PySem.W.fnOf "let_weights" "Ask.let_weights" (defArgs s_Ask_let_weights) (defBody s_Ask_let_weights) (defScope s_Ask_let_weights) .none kVAsk_let_weights dcAsk_let_weights pmAsk_let_weights anAsk_let_weights cdAsk_let_weights ctAsk_let_weights), slAsk_let_weights⟩) (cAsk_let_weights : PySem.W.codeIn K cdAsk_let_weights "Ask.let_weights" = true) (kAsk_let_weights : PySem.W.keepIn K (.ref fAsk_let_weights) = true)
    (aAsk_choice : PySem.W.findIn K (.ref CAsk) "choice" = some (some (.ref fAsk_choice))) (iAsk_choice : PySem.W.isFn K (.ref fAsk_choice) = true) (lAsk_choice : K.lookup fAsk_choice = some ⟨ocAsk_choice, odAsk_choice, .func (PySem.W.fnOf "choice" "Ask.choice" (defArgs s_Ask_choice) (defBody s_Ask_choice) (defScope s_Ask_choice) .none kVAsk_choice dcAsk_choice pmAsk_choice anAsk_choice cdAsk_choice ctAsk_choice), slAsk_choice⟩) (cAsk_choice : PySem.W.codeIn K cdAsk_choice "Ask.choice" = true) (kAsk_choice : PySem.W.keepIn K (.ref fAsk_choice) = true)
    (aRule___init__ : PySem.W.findIn K (.ref CRule) "__init__" = some (some (.ref fRule___init__))) (iRule___init__ : PySem.W.isFn K (.ref fRule___init__) = true) (lRule___init__ : K.lookup fRule___init__ = some ⟨ocRule___init__, odRule___init__, .func (PySem.W.fnOf "__init__" "Rule.__init__" (defArgs s_Rule___init__) (defBody s_Rule___init__) (defScope s_Rule___init__) .none kVRule___init__ dcRule___init__ pmRule___init__ anRule___init__ cdRule___init__ ctRule___init__), slRule___init__⟩) (cRule___init__ : PySem.W.codeIn K cdRule___init__ "Rule.__init__" = true) (kRule___init__ : PySem.W.keepIn K (.ref fRule___init__) = true)
    (aRule_after : PySem.W.findIn K (.ref CRule) "after" = some (some (.ref fRule_after))) (iRule_after : PySem.W.isFn K (.ref fRule_after) = true) (lRule_after : K.lookup fRule_after = some ⟨ocRule_after, odRule_after, .func (PySem.W.fnOf "after" "Rule.after" (defArgs s_Rule_after) (defBody s_Rule_after) (defScope s_Rule_after) .none kVRule_after dcRule_after pmRule_after anRule_after cdRule_after ctRule_after), slRule_after⟩) (cRule_after : PySem.W.codeIn K cdRule_after "Rule.after" = true) (kRule_after : PySem.W.keepIn K (.ref fRule_after) = true)
    (aRule_lets : PySem.W.findIn K (.ref CRule) "lets" = some (some (.ref fRule_lets))) (iRule_lets : PySem.W.isFn K (.ref fRule_lets) = true) (lRule_lets : K.lookup fRule_lets = some ⟨ocRule_lets, odRule_lets, .func (PySem.W.fnOf "lets" "Rule.lets" (defArgs s_Rule_lets) (defBody s_Rule_lets) (defScope s_Rule_lets) .none kVRule_lets dcRule_lets pmRule_lets anRule_lets cdRule_lets ctRule_lets), slRule_lets⟩) (cRule_lets : PySem.W.codeIn K cdRule_lets "Rule.lets" = true) (kRule_lets : PySem.W.keepIn K (.ref fRule_lets) = true)
    (aL_numbers : PySem.W.nsIn K mainGlobals "_law_numbers" = some (some (.ref fL_numbers))) (lL_numbers : K.lookup fL_numbers = some ⟨ocL_numbers, odL_numbers, .func (PySem.W.fnOf "_law_numbers" "_law_numbers" (defArgs s_L_numbers) (defBody s_L_numbers) (defScope s_L_numbers) .none kVL_numbers dcL_numbers pmL_numbers anL_numbers cdL_numbers ctL_numbers), slL_numbers⟩) (cL_numbers : PySem.W.codeIn K cdL_numbers "_law_numbers" = true) (kL_numbers : PySem.W.keepIn K (.ref fL_numbers) = true)
    (aL_same : PySem.W.nsIn K mainGlobals "_law_same" = some (some (.ref fL_same))) (lL_same : K.lookup fL_same = some ⟨ocL_same, odL_same, .func (PySem.W.fnOf "_law_same" "_law_same" (defArgs s_L_same) (defBody s_L_same) (defScope s_L_same) .none kVL_same dcL_same pmL_same anL_same cdL_same ctL_same), slL_same⟩) (cL_same : PySem.W.codeIn K cdL_same "_law_same" = true) (kL_same : PySem.W.keepIn K (.ref fL_same) = true)
    (aL_vector : PySem.W.nsIn K mainGlobals "_law_vector" = some (some (.ref fL_vector))) (lL_vector : K.lookup fL_vector = some ⟨ocL_vector, odL_vector, .func (PySem.W.fnOf "_law_vector" "_law_vector" (defArgs s_L_vector) (defBody s_L_vector) (defScope s_L_vector) .none kVL_vector dcL_vector pmL_vector anL_vector cdL_vector ctL_vector), slL_vector⟩) (cL_vector : PySem.W.codeIn K cdL_vector "_law_vector" = true) (kL_vector : PySem.W.keepIn K (.ref fL_vector) = true)
    (aL_net : PySem.W.nsIn K mainGlobals "_law_net" = some (some (.ref fL_net))) (lL_net : K.lookup fL_net = some ⟨ocL_net, odL_net, .func (PySem.W.fnOf "_law_net" "_law_net" (defArgs s_L_net) (defBody s_L_net) (defScope s_L_net) .none kVL_net dcL_net pmL_net anL_net cdL_net ctL_net), slL_net⟩) (cL_net : PySem.W.codeIn K cdL_net "_law_net" = true) (kL_net : PySem.W.keepIn K (.ref fL_net) = true)
    (aL_dot : PySem.W.nsIn K mainGlobals "_law_dot" = some (some (.ref fL_dot))) (lL_dot : K.lookup fL_dot = some ⟨ocL_dot, odL_dot, .func (PySem.W.fnOf "_law_dot" "_law_dot" (defArgs s_L_dot) (defBody s_L_dot) (defScope s_L_dot) .none kVL_dot dcL_dot pmL_dot anL_dot cdL_dot ctL_dot), slL_dot⟩) (cL_dot : PySem.W.codeIn K cdL_dot "_law_dot" = true) (kL_dot : PySem.W.keepIn K (.ref fL_dot) = true)
    (aL_times : PySem.W.nsIn K mainGlobals "_law_times" = some (some (.ref fL_times))) (lL_times : K.lookup fL_times = some ⟨ocL_times, odL_times, .func (PySem.W.fnOf "_law_times" "_law_times" (defArgs s_L_times) (defBody s_L_times) (defScope s_L_times) .none kVL_times dcL_times pmL_times anL_times cdL_times ctL_times), slL_times⟩) (cL_times : PySem.W.codeIn K cdL_times "_law_times" = true) (kL_times : PySem.W.keepIn K (.ref fL_times) = true)
    (aL_row : PySem.W.nsIn K mainGlobals "_law_row" = some (some (.ref fL_row))) (lL_row : K.lookup fL_row = some ⟨ocL_row, odL_row, .func (PySem.W.fnOf "_law_row" "_law_row" (defArgs s_L_row) (defBody s_L_row) (defScope s_L_row) .none kVL_row dcL_row pmL_row anL_row cdL_row ctL_row), slL_row⟩) (cL_row : PySem.W.codeIn K cdL_row "_law_row" = true) (kL_row : PySem.W.keepIn K (.ref fL_row) = true)
    (aL_rows : PySem.W.nsIn K mainGlobals "_law_rows" = some (some (.ref fL_rows))) (lL_rows : K.lookup fL_rows = some ⟨ocL_rows, odL_rows, .func (PySem.W.fnOf "_law_rows" "_law_rows" (defArgs s_L_rows) (defBody s_L_rows) (defScope s_L_rows) .none kVL_rows dcL_rows pmL_rows anL_rows cdL_rows ctL_rows), slL_rows⟩) (cL_rows : PySem.W.codeIn K cdL_rows "_law_rows" = true) (kL_rows : PySem.W.keepIn K (.ref fL_rows) = true)
    (aL_after : PySem.W.nsIn K mainGlobals "_law_after" = some (some (.ref fL_after))) (lL_after : K.lookup fL_after = some ⟨ocL_after, odL_after, .func (PySem.W.fnOf "_law_after" "_law_after" (defArgs s_L_after) (defBody s_L_after) (defScope s_L_after) .none kVL_after dcL_after pmL_after anL_after cdL_after ctL_after), slL_after⟩) (cL_after : PySem.W.codeIn K cdL_after "_law_after" = true) (kL_after : PySem.W.keepIn K (.ref fL_after) = true)
    (aL_counted : PySem.W.nsIn K mainGlobals "_law_counted" = some (some (.ref fL_counted))) (lL_counted : K.lookup fL_counted = some ⟨ocL_counted, odL_counted, .func (PySem.W.fnOf "_law_counted" "_law_counted" (defArgs s_L_counted) (defBody s_L_counted) (defScope s_L_counted) .none kVL_counted dcL_counted pmL_counted anL_counted cdL_counted ctL_counted), slL_counted⟩) (cL_counted : PySem.W.codeIn K cdL_counted "_law_counted" = true) (kL_counted : PySem.W.keepIn K (.ref fL_counted) = true)
    (aL_choice : PySem.W.nsIn K mainGlobals "_law_choice" = some (some (.ref fL_choice))) (lL_choice : K.lookup fL_choice = some ⟨ocL_choice, odL_choice, .func (PySem.W.fnOf "_law_choice" "_law_choice" (defArgs s_L_choice) (defBody s_L_choice) (defScope s_L_choice) .none kVL_choice dcL_choice pmL_choice anL_choice cdL_choice ctL_choice), slL_choice⟩) (cL_choice : PySem.W.codeIn K cdL_choice "_law_choice" = true) (kL_choice : PySem.W.keepIn K (.ref fL_choice) = true)
    (aL_rule : PySem.W.nsIn K mainGlobals "_law_rule" = some (some (.ref fL_rule))) (lL_rule : K.lookup fL_rule = some ⟨ocL_rule, odL_rule, .func (PySem.W.fnOf "_law_rule" "_law_rule" (defArgs s_L_rule) (defBody s_L_rule) (defScope s_L_rule) .none kVL_rule dcL_rule pmL_rule anL_rule cdL_rule ctL_rule), slL_rule⟩) (cL_rule : PySem.W.codeIn K cdL_rule "_law_rule" = true) (kL_rule : PySem.W.keepIn K (.ref fL_rule) = true)
    (aL_stops : PySem.W.nsIn K mainGlobals "_law_stops" = some (some (.ref fL_stops))) (lL_stops : K.lookup fL_stops = some ⟨ocL_stops, odL_stops, .func (PySem.W.fnOf "_law_stops" "_law_stops" (defArgs s_L_stops) (defBody s_L_stops) (defScope s_L_stops) .none kVL_stops dcL_stops pmL_stops anL_stops cdL_stops ctL_stops), slL_stops⟩) (cL_stops : PySem.W.codeIn K cdL_stops "_law_stops" = true) (kL_stops : PySem.W.keepIn K (.ref fL_stops) = true)
    (aL_tape : PySem.W.nsIn K mainGlobals "_law_tape" = some (some (.ref fL_tape))) (lL_tape : K.lookup fL_tape = some ⟨ocL_tape, odL_tape, .func (PySem.W.fnOf "_law_tape" "_law_tape" (defArgs s_L_tape) (defBody s_L_tape) (defScope s_L_tape) .none kVL_tape dcL_tape pmL_tape anL_tape cdL_tape ctL_tape), slL_tape⟩) (cL_tape : PySem.W.codeIn K cdL_tape "_law_tape" = true) (kL_tape : PySem.W.keepIn K (.ref fL_tape) = true)
    (aL_ask : PySem.W.nsIn K mainGlobals "_law_ask" = some (some (.ref fL_ask))) (lL_ask : K.lookup fL_ask = some ⟨ocL_ask, odL_ask, .func (PySem.W.fnOf "_law_ask" "_law_ask" (defArgs s_L_ask) (defBody s_L_ask) (defScope s_L_ask) .none kVL_ask dcL_ask pmL_ask anL_ask cdL_ask ctL_ask), slL_ask⟩) (cL_ask : PySem.W.codeIn K cdL_ask "_law_ask" = true) (kL_ask : PySem.W.keepIn K (.ref fL_ask) = true)
    (aL_ends : PySem.W.nsIn K mainGlobals "_law_ends" = some (some (.ref fL_ends))) (lL_ends : K.lookup fL_ends = some ⟨ocL_ends, odL_ends, .func (PySem.W.fnOf "_law_ends" "_law_ends" (defArgs s_L_ends) (defBody s_L_ends) (defScope s_L_ends) .none kVL_ends dcL_ends pmL_ends anL_ends cdL_ends ctL_ends), slL_ends⟩) (cL_ends : PySem.W.codeIn K cdL_ends "_law_ends" = true) (kL_ends : PySem.W.keepIn K (.ref fL_ends) = true)
    (aL_stopped : PySem.W.nsIn K mainGlobals "_law_stopped" = some (some (.ref fL_stopped))) (lL_stopped : K.lookup fL_stopped = some ⟨ocL_stopped, odL_stopped, .func (PySem.W.fnOf "_law_stopped" "_law_stopped" (defArgs s_L_stopped) (defBody s_L_stopped) (defScope s_L_stopped) .none kVL_stopped dcL_stopped pmL_stopped anL_stopped cdL_stopped ctL_stopped), slL_stopped⟩) (cL_stopped : PySem.W.codeIn K cdL_stopped "_law_stopped" = true) (kL_stopped : PySem.W.keepIn K (.ref fL_stopped) = true)
    (aL_written : PySem.W.nsIn K mainGlobals "_law_written" = some (some (.ref fL_written))) (lL_written : K.lookup fL_written = some ⟨ocL_written, odL_written, .func (PySem.W.fnOf "_law_written" "_law_written" (defArgs s_L_written) (defBody s_L_written) (defScope s_L_written) .none kVL_written dcL_written pmL_written anL_written cdL_written ctL_written), slL_written⟩) (cL_written : PySem.W.codeIn K cdL_written "_law_written" = true) (kL_written : PySem.W.keepIn K (.ref fL_written) = true)
    (aL_made : PySem.W.nsIn K mainGlobals "_law_made" = some (some (.ref fL_made))) (lL_made : K.lookup fL_made = some ⟨ocL_made, odL_made, .func (PySem.W.fnOf "_law_made" "_law_made" (defArgs s_L_made) (defBody s_L_made) (defScope s_L_made) .none kVL_made dcL_made pmL_made anL_made cdL_made ctL_made), slL_made⟩) (cL_made : PySem.W.codeIn K cdL_made "_law_made" = true) (kL_made : PySem.W.keepIn K (.ref fL_made) = true)
    (aL_odd : PySem.W.nsIn K mainGlobals "_law_odd" = some (some (.ref fL_odd))) (lL_odd : K.lookup fL_odd = some ⟨ocL_odd, odL_odd, .func (PySem.W.fnOf "_law_odd" "_law_odd" (defArgs s_L_odd) (defBody s_L_odd) (defScope s_L_odd) .none kVL_odd dcL_odd pmL_odd anL_odd cdL_odd ctL_odd), slL_odd⟩) (cL_odd : PySem.W.codeIn K cdL_odd "_law_odd" = true) (kL_odd : PySem.W.keepIn K (.ref fL_odd) = true)
    (aL_put : PySem.W.nsIn K mainGlobals "_law_put" = some (some (.ref fL_put))) (lL_put : K.lookup fL_put = some ⟨ocL_put, odL_put, .func (PySem.W.fnOf "_law_put" "_law_put" (defArgs s_L_put) (defBody s_L_put) (defScope s_L_put) .none kVL_put dcL_put pmL_put anL_put cdL_put ctL_put), slL_put⟩) (cL_put : PySem.W.codeIn K cdL_put "_law_put" = true) (kL_put : PySem.W.keepIn K (.ref fL_put) = true)
    (aL_spoilt : PySem.W.nsIn K mainGlobals "_law_spoilt" = some (some (.ref fL_spoilt))) (lL_spoilt : K.lookup fL_spoilt = some ⟨ocL_spoilt, odL_spoilt, .func (PySem.W.fnOf "_law_spoilt" "_law_spoilt" (defArgs s_L_spoilt) (defBody s_L_spoilt) (defScope s_L_spoilt) .none kVL_spoilt dcL_spoilt pmL_spoilt anL_spoilt cdL_spoilt ctL_spoilt), slL_spoilt⟩) (cL_spoilt : PySem.W.codeIn K cdL_spoilt "_law_spoilt" = true) (kL_spoilt : PySem.W.keepIn K (.ref fL_spoilt) = true)
    (aL_first_bad : PySem.W.nsIn K mainGlobals "_law_first_bad" = some (some (.ref fL_first_bad))) (lL_first_bad : K.lookup fL_first_bad = some ⟨ocL_first_bad, odL_first_bad, .func (PySem.W.fnOf "_law_first_bad" "_law_first_bad" (defArgs s_L_first_bad) (defBody s_L_first_bad) (defScope s_L_first_bad) .none kVL_first_bad dcL_first_bad pmL_first_bad anL_first_bad cdL_first_bad ctL_first_bad), slL_first_bad⟩) (cL_first_bad : PySem.W.codeIn K cdL_first_bad "_law_first_bad" = true) (kL_first_bad : PySem.W.keepIn K (.ref fL_first_bad) = true)
    (aL_refuses : PySem.W.nsIn K mainGlobals "_law_refuses" = some (some (.ref fL_refuses))) (lL_refuses : K.lookup fL_refuses = some ⟨ocL_refuses, odL_refuses, .func (PySem.W.fnOf "_law_refuses" "_law_refuses" (defArgs s_L_refuses) (defBody s_L_refuses) (defScope s_L_refuses) .none kVL_refuses dcL_refuses pmL_refuses anL_refuses cdL_refuses ctL_refuses), slL_refuses⟩) (cL_refuses : PySem.W.codeIn K cdL_refuses "_law_refuses" = true) (kL_refuses : PySem.W.keepIn K (.ref fL_refuses) = true)
    (alaw : PySem.W.nsIn K mainGlobals "law" = some (some (.ref flaw))) (llaw : K.lookup flaw = some ⟨oclaw, odlaw, .func (PySem.W.fnOf "law" "law" (defArgs s_law) (defBody s_law) (defScope s_law) .none kVlaw dclaw pmlaw anlaw cdlaw ctlaw), sllaw⟩) (claw : PySem.W.codeIn K cdlaw "law" = true) (klaw : PySem.W.keepIn K (.ref flaw) = true)
    (xlInvalidLetter : K.lookup CInvalidLetter = some (PySem.excClassObj nmInvalidLetter qnInvalidLetter CInvalidLetter NInvalidLetter bsInvalidLetter [.ref CServeError, .type "ValueError", .type "Exception", .type "BaseException", .type "object"] true snInvalidLetter subInvalidLetter abInvalidLetter colInvalidLetter ddInvalidLetter m0InvalidLetter m1InvalidLetter m2InvalidLetter m3InvalidLetter m5InvalidLetter "ValueError.__new__")) (xaInvalidLetter : PySem.W.findIn K (.ref CInvalidLetter) "__setattr__" = some (some (.builtin "object.__setattr__"))) (xkInvalidLetter : PySem.W.keepIn K (.ref CInvalidLetter) = true) (xtInvalidLetter : PySem.W.typeIn K (.ref fInvalidLetter___init__) = some (.type "function")) (xnInvalidLetter : PySem.W.findIn K (.ref CInvalidLetter) "letter" = some none) (xgInvalidLetter : PySem.W.findIn K (.ref CInvalidLetter) "__getattribute__" = some (some (.builtin "BaseException.__getattribute__"))) (xhInvalidLetter : PySem.W.findIn K (.ref CInvalidLetter) "__getattr__" = some none) (xcInvalidLetter : PySem.W.findIn K (.ref CInvalidLetter) "__class__" = some (some (.builtin "object.__class__"))) (xsInvalidLetter : PySem.W.specialIn K (.builtin "object.__class__") "__get__" = some (some (.builtin "getset_descriptor.__get__"))) (xuInvalidLetter : PySem.W.takesIn K (.builtin "object.__class__") = some true) (xmInvalidLetter : PySem.W.mroIn K CInvalidLetter (.type "object") = some true) (xvInvalidLetter : PySem.W.subIn K (.ref CInvalidLetter) (.type "ValueError") = some true)
    (suInvalidLetter_ServeError : PySem.W.subIn K (.ref CInvalidLetter) (.ref CServeError) = some true)
    (suInvalidLetter_InvalidNumber : PySem.W.subIn K (.ref CInvalidLetter) (.ref CInvalidNumber) = some false)
    (suInvalidLetter_InvalidLetter : PySem.W.subIn K (.ref CInvalidLetter) (.ref CInvalidLetter) = some true)
    (suInvalidLetter_NoHouse : PySem.W.subIn K (.ref CInvalidLetter) (.ref CNoHouse) = some false)
    (suInvalidLetter_NoRequest : PySem.W.subIn K (.ref CInvalidLetter) (.ref CNoRequest) = some false)
    (suInvalidLetter_NoRoom : PySem.W.subIn K (.ref CInvalidLetter) (.ref CNoRoom) = some false)
    (suInvalidLetter_NotAlone : PySem.W.subIn K (.ref CInvalidLetter) (.ref CNotAlone) = some false)
    (suInvalidLetter_NotHeld : PySem.W.subIn K (.ref CInvalidLetter) (.ref CNotHeld) = some false)
    (suInvalidLetter_TooLarge : PySem.W.subIn K (.ref CInvalidLetter) (.ref CTooLarge) = some false)
    (zValueError : PySem.W.nsIn K mainGlobals "ValueError" = some none)
    (zabs : PySem.W.nsIn K mainGlobals "abs" = some none)
    (zbool : PySem.W.nsIn K mainGlobals "bool" = some none)
    (zenumerate : PySem.W.nsIn K mainGlobals "enumerate" = some none)
    (zint : PySem.W.nsIn K mainGlobals "int" = some none)
    (zisinstance : PySem.W.nsIn K mainGlobals "isinstance" = some none)
    (zlen : PySem.W.nsIn K mainGlobals "len" = some none)
    (zlist : PySem.W.nsIn K mainGlobals "list" = some none)
    (zmax : PySem.W.nsIn K mainGlobals "max" = some none)
    (zmin : PySem.W.nsIn K mainGlobals "min" = some none)
    (zrange : PySem.W.nsIn K mainGlobals "range" = some none)
    (zrepr : PySem.W.nsIn K mainGlobals "repr" = some none)
    (zstr : PySem.W.nsIn K mainGlobals "str" = some none)
    (zsum : PySem.W.nsIn K mainGlobals "sum" = some none)
    (ztuple : PySem.W.nsIn K mainGlobals "tuple" = some none)
    (zzip : PySem.W.nsIn K mainGlobals "zip" = some none)
    : ∃ fd : FuncData, (∀ (s : Shared) (v : Value), BindsTo s fd ⟨[v], []⟩ [("_law_script", v)]) ∧ ∀ base : Heap, K.In base → base.Ns mainGlobals mg → FnG l.prog w K mg base CX0 8 fa fd ["_law_script"] (sp_law K) := by
  have e := hfa.symm.trans (PySem.W.mg_of X G alaw)
  cases e
  have FInvalidLetter___init__ := fun_mk (st := s_InvalidLetter___init__) lInvalidLetter___init__ cInvalidLetter___init__ kInvalidLetter___init__
  have bInvalidLetter___init__ := FInvalidLetter___init__.binds (ps := ["self", "letter"]) fun _ _ _ _ _ _ us hl => match us, hl with | [_, _], _ => rfl
  have Frows_of := fun_mk (st := s_rows_of) lrows_of crows_of krows_of
  have brows_of := Frows_of.binds (ps := ["net", "letters"]) fun _ _ _ _ _ _ us hl => match us, hl with | [_, _], _ => rfl
  have Fcheck_letters := fun_mk (st := s_check_letters) lcheck_letters ccheck_letters kcheck_letters
  have bcheck_letters := Fcheck_letters.binds (ps := ["net", "ask", "begun"]) fun _ _ _ _ _ _ us hl => match us, hl with | [_, _, _], _ => rfl
  have Fstop_length := fun_mk (st := s_stop_length) lstop_length cstop_length kstop_length
  have bstop_length := Fstop_length.binds (ps := ["stops", "text"]) fun _ _ _ _ _ _ us hl => match us, hl with | [_, _], _ => rfl
  have Fnext_text := fun_mk (st := s_next_text) lnext_text cnext_text knext_text
  have bnext_text := Fnext_text.binds (ps := ["net", "ask", "text", "weights"]) fun _ _ _ _ _ _ us hl => match us, hl with | [_, _, _, _], _ => rfl
  have Fwritten := fun_mk (st := s_written) lwritten cwritten kwritten
  have bwritten := kbind_dflt (st := s_written) (ps := ["net", "ask", "begun"]) 2 rfl lwritten kdwritten fun us hl => match us, hl with | [_, _], _ => ⟨_, _, _, _, _, _, rfl, rfl, rfl⟩
  have kbwritten := kbind_of (ps := ["net", "ask", "begun"]) (ks := ["begun"]) (n := 2) Fwritten fun _ _ _ _ _ _ us ws hl hk => match us, hl, ws, hk with | [_, _], _, [_], _ => rfl
  have Fis_between := fun_mk (st := s_is_between) lis_between cis_between kis_between
  have bis_between := Fis_between.binds (ps := ["value", "least", "most"]) fun _ _ _ _ _ _ us hl => match us, hl with | [_, _, _], _ => rfl
  have Fvector_of := fun_mk (st := s_vector_of) lvector_of cvector_of kvector_of
  have bvector_of := Fvector_of.binds (ps := ["numbers"]) fun _ _ _ _ _ _ us hl => match us, hl with | [_], _ => rfl
  have Fmatrix_of := fun_mk (st := s_matrix_of) lmatrix_of cmatrix_of kmatrix_of
  have bmatrix_of := Fmatrix_of.binds (ps := ["rows"]) fun _ _ _ _ _ _ us hl => match us, hl with | [_], _ => rfl
  have Fproduct_sum := fun_mk (st := s_product_sum) lproduct_sum cproduct_sum kproduct_sum
  have bproduct_sum := Fproduct_sum.binds (ps := ["one", "two"]) fun _ _ _ _ _ _ us hl => match us, hl with | [_, _], _ => rfl
  have FNet___init__ := fun_mk (st := s_Net___init__) lNet___init__ cNet___init__ kNet___init__
  have bNet___init__ := FNet___init__.binds (ps := ["self", "prime", "embed", "shift", "layers", "out", "end"]) fun _ _ _ _ _ _ us hl => match us, hl with | [_, _, _, _, _, _, _], _ => rfl
  have FNet_is_letter := fun_mk (st := s_Net_is_letter) lNet_is_letter cNet_is_letter kNet_is_letter
  have bNet_is_letter := FNet_is_letter.binds (ps := ["self", "value"]) fun _ _ _ _ _ _ us hl => match us, hl with | [_, _], _ => rfl
  have FNet_rest := fun_mk (st := s_Net_rest) lNet_rest cNet_rest kNet_rest
  have bNet_rest := FNet_rest.binds (ps := ["self", "number"]) fun _ _ _ _ _ _ us hl => match us, hl with | [_, _], _ => rfl
  have FNet_times := fun_mk (st := s_Net_times) lNet_times cNet_times kNet_times
  have bNet_times := FNet_times.binds (ps := ["self", "matrix", "vector"]) fun _ _ _ _ _ _ us hl => match us, hl with | [_, _, _], _ => rfl
  have FNet_plus := fun_mk (st := s_Net_plus) lNet_plus cNet_plus kNet_plus
  have bNet_plus := FNet_plus.binds (ps := ["self", "one", "two"]) fun _ _ _ _ _ _ us hl => match us, hl with | [_, _, _], _ => rfl
  have FNet_looked_at := fun_mk (st := s_Net_looked_at) lNet_looked_at cNet_looked_at kNet_looked_at
  have bNet_looked_at := FNet_looked_at.binds (ps := ["self", "query", "pairs"]) fun _ _ _ _ _ _ us hl => match us, hl with | [_, _, _], _ => rfl
  have FNet_row := fun_mk (st := s_Net_row) lNet_row cNet_row kNet_row
  have bNet_row := FNet_row.binds (ps := ["self", "rows", "letter"]) fun _ _ _ _ _ _ us hl => match us, hl with | [_, _, _], _ => rfl
  have Fgreatest := fun_mk (st := s_greatest) lgreatest cgreatest kgreatest
  have bgreatest := Fgreatest.binds (ps := ["weights"]) fun _ _ _ _ _ _ us hl => match us, hl with | [_], _ => rfl
  have Fby_number := fun_mk (st := s_by_number) lby_number cby_number kby_number
  have bby_number := Fby_number.binds (ps := ["weights", "number"]) fun _ _ _ _ _ _ us hl => match us, hl with | [_, _], _ => rfl
  have FAsk___init__ := fun_mk (st := s_Ask___init__) lAsk___init__ cAsk___init__ kAsk___init__
  have bAsk___init__ := kbind_of (ps := ["self", "prompt", "most", "stops", "tape", "rule"]) (ks := ["stops", "tape", "rule"]) (n := 3) FAsk___init__ fun _ _ _ _ _ _ us ws hl hk => match us, hl, ws, hk with | [_, _, _], _, [_, _, _], _ => rfl
  have FAsk_let_weights := fun_mk (st := s_Ask_let_weights) lAsk_let_weights cAsk_let_weights kAsk_let_weights
  have bAsk_let_weights := FAsk_let_weights.binds (ps := ["self", "weights", "text"]) fun _ _ _ _ _ _ us hl => match us, hl with | [_, _, _], _ => rfl
  have FAsk_choice := fun_mk (st := s_Ask_choice) lAsk_choice cAsk_choice kAsk_choice
  have bAsk_choice := FAsk_choice.binds (ps := ["self", "weights", "text"]) fun _ _ _ _ _ _ us hl => match us, hl with | [_, _, _], _ => rfl
  have FRule___init__ := fun_mk (st := s_Rule___init__) lRule___init__ cRule___init__ kRule___init__
  have bRule___init__ := FRule___init__.binds (ps := ["self", "start", "steps"]) fun _ _ _ _ _ _ us hl => match us, hl with | [_, _, _], _ => rfl
  have FRule_after := fun_mk (st := s_Rule_after) lRule_after cRule_after kRule_after
  have bRule_after := FRule_after.binds (ps := ["self", "text"]) fun _ _ _ _ _ _ us hl => match us, hl with | [_, _], _ => rfl
  have FRule_lets := fun_mk (st := s_Rule_lets) lRule_lets cRule_lets kRule_lets
  have bRule_lets := FRule_lets.binds (ps := ["self", "text", "letter"]) fun _ _ _ _ _ _ us hl => match us, hl with | [_, _, _], _ => rfl
  have FL_numbers := fun_mk (st := s_L_numbers) lL_numbers cL_numbers kL_numbers
  have bL_numbers := FL_numbers.binds (ps := ["_law_cell", "_law_at", "_law_many"]) fun _ _ _ _ _ _ us hl => match us, hl with | [_, _, _], _ => rfl
  have FL_same := fun_mk (st := s_L_same) lL_same cL_same kL_same
  have bL_same := FL_same.binds (ps := ["_law_actual", "_law_expected"]) fun _ _ _ _ _ _ us hl => match us, hl with | [_, _], _ => rfl
  have FL_vector := fun_mk (st := s_L_vector) lL_vector cL_vector kL_vector
  have bL_vector := FL_vector.binds (ps := ["_law_numbers_here", "_law_at", "_law_width", "_law_prime"]) fun _ _ _ _ _ _ us hl => match us, hl with | [_, _, _, _], _ => rfl
  have FL_net := fun_mk (st := s_L_net) lL_net cL_net kL_net
  have bL_net := FL_net.binds (ps := ["_law_numbers_here", "_law_letters", "_law_width", "_law_many", "_law_prime"]) fun _ _ _ _ _ _ us hl => match us, hl with | [_, _, _, _, _], _ => rfl
  have FL_dot := fun_mk (st := s_L_dot) lL_dot cL_dot kL_dot
  have bL_dot := FL_dot.binds (ps := ["_law_one", "_law_other", "_law_prime"]) fun _ _ _ _ _ _ us hl => match us, hl with | [_, _, _], _ => rfl
  have FL_times := fun_mk (st := s_L_times) lL_times cL_times kL_times
  have bL_times := FL_times.binds (ps := ["_law_matrix", "_law_vector_here", "_law_prime"]) fun _ _ _ _ _ _ us hl => match us, hl with | [_, _, _], _ => rfl
  have FL_row := fun_mk (st := s_L_row) lL_row cL_row kL_row
  have bL_row := FL_row.binds (ps := ["_law_net_here", "_law_rows_here", "_law_letter"]) fun _ _ _ _ _ _ us hl => match us, hl with | [_, _, _], _ => rfl
  have FL_rows := fun_mk (st := s_L_rows) lL_rows cL_rows kL_rows
  have bL_rows := FL_rows.binds (ps := ["_law_net_here", "_law_letters"]) fun _ _ _ _ _ _ us hl => match us, hl with | [_, _], _ => rfl
  have FL_after := fun_mk (st := s_L_after) lL_after cL_after kL_after
  have bL_after := FL_after.binds (ps := ["_law_rule_here", "_law_text"]) fun _ _ _ _ _ _ us hl => match us, hl with | [_, _], _ => rfl
  have FL_counted := fun_mk (st := s_L_counted) lL_counted cL_counted kL_counted
  have bL_counted := FL_counted.binds (ps := ["_law_weights", "_law_rule_here", "_law_text"]) fun _ _ _ _ _ _ us hl => match us, hl with | [_, _, _], _ => rfl
  have FL_choice := fun_mk (st := s_L_choice) lL_choice cL_choice kL_choice
  have bL_choice := FL_choice.binds (ps := ["_law_weights", "_law_rule_here", "_law_tape_here", "_law_text"]) fun _ _ _ _ _ _ us hl => match us, hl with | [_, _, _, _], _ => rfl
  have FL_rule := fun_mk (st := s_L_rule) lL_rule cL_rule kL_rule
  have bL_rule := FL_rule.binds (ps := ["_law_numbers_here", "_law_k", "_law_letters"]) fun _ _ _ _ _ _ us hl => match us, hl with | [_, _, _], _ => rfl
  have FL_stops := fun_mk (st := s_L_stops) lL_stops cL_stops kL_stops
  have bL_stops := FL_stops.binds (ps := ["_law_numbers_here", "_law_k", "_law_letters"]) fun _ _ _ _ _ _ us hl => match us, hl with | [_, _, _], _ => rfl
  have FL_tape := fun_mk (st := s_L_tape) lL_tape cL_tape kL_tape
  have bL_tape := FL_tape.binds (ps := ["_law_numbers_here", "_law_k"]) fun _ _ _ _ _ _ us hl => match us, hl with | [_, _], _ => rfl
  have FL_ask := fun_mk (st := s_L_ask) lL_ask cL_ask kL_ask
  have bL_ask := FL_ask.binds (ps := ["_law_numbers_here", "_law_letters"]) fun _ _ _ _ _ _ us hl => match us, hl with | [_, _], _ => rfl
  have FL_ends := fun_mk (st := s_L_ends) lL_ends cL_ends kL_ends
  have bL_ends := FL_ends.binds (ps := ["_law_text", "_law_stop"]) fun _ _ _ _ _ _ us hl => match us, hl with | [_, _], _ => rfl
  have FL_stopped := fun_mk (st := s_L_stopped) lL_stopped cL_stopped kL_stopped
  have bL_stopped := FL_stopped.binds (ps := ["_law_text", "_law_stops_here"]) fun _ _ _ _ _ _ us hl => match us, hl with | [_, _], _ => rfl
  have FL_written := fun_mk (st := s_L_written) lL_written cL_written kL_written
  have bL_written := FL_written.binds (ps := ["_law_net_here", "_law_end", "_law_ask_here", "_law_begun"]) fun _ _ _ _ _ _ us hl => match us, hl with | [_, _, _, _], _ => rfl
  have FL_made := fun_mk (st := s_L_made) lL_made cL_made kL_made
  have bL_made := FL_made.binds (ps := ["_law_ask_here"]) fun _ _ _ _ _ _ us hl => match us, hl with | [_], _ => rfl
  have FL_odd := fun_mk (st := s_L_odd) lL_odd cL_odd kL_odd
  have bL_odd := FL_odd.binds (ps := ["_law_numbers_here", "_law_k", "_law_letters"]) fun _ _ _ _ _ _ us hl => match us, hl with | [_, _, _], _ => rfl
  have FL_put := fun_mk (st := s_L_put) lL_put cL_put kL_put
  have bL_put := FL_put.binds (ps := ["_law_row_here", "_law_place", "_law_value"]) fun _ _ _ _ _ _ us hl => match us, hl with | [_, _, _], _ => rfl
  have FL_spoilt := fun_mk (st := s_L_spoilt) lL_spoilt cL_spoilt kL_spoilt
  have bL_spoilt := FL_spoilt.binds (ps := ["_law_numbers_here", "_law_ask_here", "_law_begun", "_law_letters"]) fun _ _ _ _ _ _ us hl => match us, hl with | [_, _, _, _], _ => rfl
  have FL_first_bad := fun_mk (st := s_L_first_bad) lL_first_bad cL_first_bad kL_first_bad
  have bL_first_bad := FL_first_bad.binds (ps := ["_law_ask_here", "_law_begun", "_law_letters"]) fun _ _ _ _ _ _ us hl => match us, hl with | [_, _, _], _ => rfl
  have FL_refuses := fun_mk (st := s_L_refuses) lL_refuses cL_refuses kL_refuses
  have bL_refuses := FL_refuses.binds (ps := ["_law_net_here", "_law_ask_here", "_law_begun", "_law_odd_here"]) fun _ _ _ _ _ _ us hl => match us, hl with | [_, _, _, _], _ => rfl
  have Flaw := fun_mk (st := s_law) llaw claw klaw
  have blaw := Flaw.binds (ps := ["_law_script"]) fun _ _ _ _ _ _ us hl => match us, hl with | [_], _ => rfl
  let T : Txt K mg := { c_Net := _, C_Net := ⟨pgNet, hdNet, poNet, saNet⟩, gc_Net := PySem.W.mg_of X G aCNet, n_Net_prime := nNet_prime, n_Net_embed := nNet_embed, n_Net_shift := nNet_shift, n_Net_layers := nNet_layers, n_Net_out := nNet_out, n_Net_end := nNet_end, c_Ask := _, C_Ask := ⟨pgAsk, hdAsk, poAsk, saAsk⟩, gc_Ask := PySem.W.mg_of X G aCAsk, n_Ask_prompt := nAsk_prompt, n_Ask_most := nAsk_most, n_Ask_stops := nAsk_stops, n_Ask_tape := nAsk_tape, n_Ask_rule := nAsk_rule, c_Rule := _, C_Rule := ⟨pgRule, hdRule, poRule, saRule⟩, gc_Rule := PySem.W.mg_of X G aCRule, n_Rule_start := nRule_start, n_Rule_steps := nRule_steps, c_ServeError := _, gc_ServeError := PySem.W.mg_of X G aCServeError, er_ServeError := ⟨eiServeError, etServeError, ebServeError, ehServeError⟩, c_InvalidNumber := _, gc_InvalidNumber := PySem.W.mg_of X G aCInvalidNumber, er_InvalidNumber := ⟨eiInvalidNumber, etInvalidNumber, ebInvalidNumber, ehInvalidNumber⟩, c_InvalidLetter := _, gc_InvalidLetter := PySem.W.mg_of X G aCInvalidLetter, er_InvalidLetter := ⟨eiInvalidLetter, etInvalidLetter, ebInvalidLetter, ehInvalidLetter⟩, c_NoHouse := _, gc_NoHouse := PySem.W.mg_of X G aCNoHouse, er_NoHouse := ⟨eiNoHouse, etNoHouse, ebNoHouse, ehNoHouse⟩, c_NoRequest := _, gc_NoRequest := PySem.W.mg_of X G aCNoRequest, er_NoRequest := ⟨eiNoRequest, etNoRequest, ebNoRequest, ehNoRequest⟩, c_NoRoom := _, gc_NoRoom := PySem.W.mg_of X G aCNoRoom, er_NoRoom := ⟨eiNoRoom, etNoRoom, ebNoRoom, ehNoRoom⟩, c_NotAlone := _, gc_NotAlone := PySem.W.mg_of X G aCNotAlone, er_NotAlone := ⟨eiNotAlone, etNotAlone, ebNotAlone, ehNotAlone⟩, c_NotHeld := _, gc_NotHeld := PySem.W.mg_of X G aCNotHeld, er_NotHeld := ⟨eiNotHeld, etNotHeld, ebNotHeld, ehNotHeld⟩, c_TooLarge := _, gc_TooLarge := PySem.W.mg_of X G aCTooLarge, er_TooLarge := ⟨eiTooLarge, etTooLarge, ebTooLarge, ehTooLarge⟩, k_PRIMES := _, gk_PRIMES := PySem.W.mg_of X G aKPRIMES, tk_PRIMES := fun _ => .inr ⟨_, itKPRIMES, nKPRIMES, lKPRIMES, rfl, rfl, vKPRIMES.1, vKPRIMES.2⟩, tk_MOST_LETTERS := _, gk_MOST_LETTERS := PySem.W.mg_of X G aKMOST_LETTERS, a_InvalidLetter___init__ := _, d_InvalidLetter___init__ := _, F_InvalidLetter___init__ := FInvalidLetter___init__, b_InvalidLetter___init__ := bInvalidLetter___init__, a_rows_of := _, d_rows_of := _, F_rows_of := Frows_of, b_rows_of := brows_of, g_rows_of := PySem.W.mg_of X G arows_of, a_check_letters := _, d_check_letters := _, F_check_letters := Fcheck_letters, b_check_letters := bcheck_letters, g_check_letters := PySem.W.mg_of X G acheck_letters, a_stop_length := _, d_stop_length := _, F_stop_length := Fstop_length, b_stop_length := bstop_length, g_stop_length := PySem.W.mg_of X G astop_length, a_next_text := _, d_next_text := _, F_next_text := Fnext_text, b_next_text := bnext_text, g_next_text := PySem.W.mg_of X G anext_text, kb_written := kbwritten, w_written := _, wt_written := fun _ => .inr ⟨_, #[], nWwritten, kwwritten, rfl, rfl, Nat.zero_le _, .nil⟩, a_written := _, d_written := _, F_written := Fwritten, b_written := bwritten, g_written := PySem.W.mg_of X G awritten, a_is_between := _, d_is_between := _, F_is_between := Fis_between, b_is_between := bis_between, g_is_between := PySem.W.mg_of X G ais_between, a_vector_of := _, d_vector_of := _, F_vector_of := Fvector_of, b_vector_of := bvector_of, g_vector_of := PySem.W.mg_of X G avector_of, a_matrix_of := _, d_matrix_of := _, F_matrix_of := Fmatrix_of, b_matrix_of := bmatrix_of, g_matrix_of := PySem.W.mg_of X G amatrix_of, a_product_sum := _, d_product_sum := _, F_product_sum := Fproduct_sum, b_product_sum := bproduct_sum, g_product_sum := PySem.W.mg_of X G aproduct_sum, a_Net___init__ := _, d_Net___init__ := _, F_Net___init__ := FNet___init__, b_Net___init__ := bNet___init__, M_Net := ⟨mkNet, aNet___init__, iNet___init__, kcNet⟩, a_Net_is_letter := _, d_Net_is_letter := _, F_Net_is_letter := FNet_is_letter, b_Net_is_letter := bNet_is_letter, m_Net_is_letter := ⟨aNet_is_letter, iNet_is_letter, kNet_is_letter⟩, a_Net_rest := _, d_Net_rest := _, F_Net_rest := FNet_rest, b_Net_rest := bNet_rest, m_Net_rest := ⟨aNet_rest, iNet_rest, kNet_rest⟩, a_Net_times := _, d_Net_times := _, F_Net_times := FNet_times, b_Net_times := bNet_times, m_Net_times := ⟨aNet_times, iNet_times, kNet_times⟩, a_Net_plus := _, d_Net_plus := _, F_Net_plus := FNet_plus, b_Net_plus := bNet_plus, m_Net_plus := ⟨aNet_plus, iNet_plus, kNet_plus⟩, a_Net_looked_at := _, d_Net_looked_at := _, F_Net_looked_at := FNet_looked_at, b_Net_looked_at := bNet_looked_at, m_Net_looked_at := ⟨aNet_looked_at, iNet_looked_at, kNet_looked_at⟩, a_Net_row := _, d_Net_row := _, F_Net_row := FNet_row, b_Net_row := bNet_row, m_Net_row := ⟨aNet_row, iNet_row, kNet_row⟩, a_greatest := _, d_greatest := _, F_greatest := Fgreatest, b_greatest := bgreatest, g_greatest := PySem.W.mg_of X G agreatest, a_by_number := _, d_by_number := _, F_by_number := Fby_number, b_by_number := bby_number, g_by_number := PySem.W.mg_of X G aby_number, a_Ask___init__ := _, d_Ask___init__ := _, F_Ask___init__ := FAsk___init__, kb_Ask___init__ := bAsk___init__, M_Ask := ⟨mkAsk, aAsk___init__, iAsk___init__, kcAsk⟩, a_Ask_let_weights := _, d_Ask_let_weights := _, F_Ask_let_weights := FAsk_let_weights, b_Ask_let_weights := bAsk_let_weights, m_Ask_let_weights := ⟨aAsk_let_weights, iAsk_let_weights, kAsk_let_weights⟩, a_Ask_choice := _, d_Ask_choice := _, F_Ask_choice := FAsk_choice, b_Ask_choice := bAsk_choice, m_Ask_choice := ⟨aAsk_choice, iAsk_choice, kAsk_choice⟩, a_Rule___init__ := _, d_Rule___init__ := _, F_Rule___init__ := FRule___init__, b_Rule___init__ := bRule___init__, M_Rule := ⟨mkRule, aRule___init__, iRule___init__, kcRule⟩, a_Rule_after := _, d_Rule_after := _, F_Rule_after := FRule_after, b_Rule_after := bRule_after, m_Rule_after := ⟨aRule_after, iRule_after, kRule_after⟩, a_Rule_lets := _, d_Rule_lets := _, F_Rule_lets := FRule_lets, b_Rule_lets := bRule_lets, m_Rule_lets := ⟨aRule_lets, iRule_lets, kRule_lets⟩, a_L_numbers := _, d_L_numbers := _, F_L_numbers := FL_numbers, b_L_numbers := bL_numbers, g_L_numbers := PySem.W.mg_of X G aL_numbers, a_L_same := _, d_L_same := _, F_L_same := FL_same, b_L_same := bL_same, g_L_same := PySem.W.mg_of X G aL_same, a_L_vector := _, d_L_vector := _, F_L_vector := FL_vector, b_L_vector := bL_vector, g_L_vector := PySem.W.mg_of X G aL_vector, a_L_net := _, d_L_net := _, F_L_net := FL_net, b_L_net := bL_net, g_L_net := PySem.W.mg_of X G aL_net, a_L_dot := _, d_L_dot := _, F_L_dot := FL_dot, b_L_dot := bL_dot, g_L_dot := PySem.W.mg_of X G aL_dot, a_L_times := _, d_L_times := _, F_L_times := FL_times, b_L_times := bL_times, g_L_times := PySem.W.mg_of X G aL_times, a_L_row := _, d_L_row := _, F_L_row := FL_row, b_L_row := bL_row, g_L_row := PySem.W.mg_of X G aL_row, a_L_rows := _, d_L_rows := _, F_L_rows := FL_rows, b_L_rows := bL_rows, g_L_rows := PySem.W.mg_of X G aL_rows, a_L_after := _, d_L_after := _, F_L_after := FL_after, b_L_after := bL_after, g_L_after := PySem.W.mg_of X G aL_after, a_L_counted := _, d_L_counted := _, F_L_counted := FL_counted, b_L_counted := bL_counted, g_L_counted := PySem.W.mg_of X G aL_counted, a_L_choice := _, d_L_choice := _, F_L_choice := FL_choice, b_L_choice := bL_choice, g_L_choice := PySem.W.mg_of X G aL_choice, a_L_rule := _, d_L_rule := _, F_L_rule := FL_rule, b_L_rule := bL_rule, g_L_rule := PySem.W.mg_of X G aL_rule, a_L_stops := _, d_L_stops := _, F_L_stops := FL_stops, b_L_stops := bL_stops, g_L_stops := PySem.W.mg_of X G aL_stops, a_L_tape := _, d_L_tape := _, F_L_tape := FL_tape, b_L_tape := bL_tape, g_L_tape := PySem.W.mg_of X G aL_tape, a_L_ask := _, d_L_ask := _, F_L_ask := FL_ask, b_L_ask := bL_ask, g_L_ask := PySem.W.mg_of X G aL_ask, a_L_ends := _, d_L_ends := _, F_L_ends := FL_ends, b_L_ends := bL_ends, g_L_ends := PySem.W.mg_of X G aL_ends, a_L_stopped := _, d_L_stopped := _, F_L_stopped := FL_stopped, b_L_stopped := bL_stopped, g_L_stopped := PySem.W.mg_of X G aL_stopped, a_L_written := _, d_L_written := _, F_L_written := FL_written, b_L_written := bL_written, g_L_written := PySem.W.mg_of X G aL_written, a_L_made := _, d_L_made := _, F_L_made := FL_made, b_L_made := bL_made, g_L_made := PySem.W.mg_of X G aL_made, a_L_odd := _, d_L_odd := _, F_L_odd := FL_odd, b_L_odd := bL_odd, g_L_odd := PySem.W.mg_of X G aL_odd, a_L_put := _, d_L_put := _, F_L_put := FL_put, b_L_put := bL_put, g_L_put := PySem.W.mg_of X G aL_put, a_L_spoilt := _, d_L_spoilt := _, F_L_spoilt := FL_spoilt, b_L_spoilt := bL_spoilt, g_L_spoilt := PySem.W.mg_of X G aL_spoilt, a_L_first_bad := _, d_L_first_bad := _, F_L_first_bad := FL_first_bad, b_L_first_bad := bL_first_bad, g_L_first_bad := PySem.W.mg_of X G aL_first_bad, a_L_refuses := _, d_L_refuses := _, F_L_refuses := FL_refuses, b_L_refuses := bL_refuses, g_L_refuses := PySem.W.mg_of X G aL_refuses, a_law := _, d_law := _, F_law := Flaw, b_law := blaw, g_law := PySem.W.mg_of X G alaw, ox_InvalidLetter := ⟨⟨_, _, _, _, _, _, _, _, _, _, _, _, _, _, _, xlInvalidLetter, rfl⟩, xaInvalidLetter, ebInvalidLetter, etInvalidLetter, xkInvalidLetter⟩, ic_InvalidLetter := aInvalidLetter___init__, ti_InvalidLetter := xtInvalidLetter, nf_InvalidLetter := xnInvalidLetter, xf_InvalidLetter := ⟨xgInvalidLetter, xhInvalidLetter, ebInvalidLetter, ehInvalidLetter⟩, ec_InvalidLetter := ⟨xgInvalidLetter, xhInvalidLetter, ebInvalidLetter, ehInvalidLetter, xcInvalidLetter, xsInvalidLetter, xuInvalidLetter, xmInvalidLetter⟩, sv_InvalidLetter := xvInvalidLetter, sub_InvalidLetter_ServeError := suInvalidLetter_ServeError, sub_InvalidLetter_InvalidNumber := suInvalidLetter_InvalidNumber, sub_InvalidLetter_InvalidLetter := suInvalidLetter_InvalidLetter, sub_InvalidLetter_NoHouse := suInvalidLetter_NoHouse, sub_InvalidLetter_NoRequest := suInvalidLetter_NoRequest, sub_InvalidLetter_NoRoom := suInvalidLetter_NoRoom, sub_InvalidLetter_NotAlone := suInvalidLetter_NotAlone, sub_InvalidLetter_NotHeld := suInvalidLetter_NotHeld, sub_InvalidLetter_TooLarge := suInvalidLetter_TooLarge, z_ValueError := PySem.W.mg_none_of X G zValueError, z_abs := PySem.W.mg_none_of X G zabs, z_bool := PySem.W.mg_none_of X G zbool, z_enumerate := PySem.W.mg_none_of X G zenumerate, z_int := PySem.W.mg_none_of X G zint, z_isinstance := PySem.W.mg_none_of X G zisinstance, z_len := PySem.W.mg_none_of X G zlen, z_list := PySem.W.mg_none_of X G zlist, z_max := PySem.W.mg_none_of X G zmax, z_min := PySem.W.mg_none_of X G zmin, z_range := PySem.W.mg_none_of X G zrange, z_repr := PySem.W.mg_none_of X G zrepr, z_str := PySem.W.mg_none_of X G zstr, z_sum := PySem.W.mg_none_of X G zsum, z_tuple := PySem.W.mg_none_of X G ztuple, z_zip := PySem.W.mg_none_of X G zzip }
  exact ⟨_, fun s v => .of_eq rfl, fun base _ _ => ok_law (P := l.prog) (w := w) (base := base) T⟩
theorem walk {l : PySem.W.OpenLaw} {q : Program} {loose : List Str} {XP : (Str → Option Value) → Heap → Prop} {YP : World → Heap → Prop} {d : DefRec} {K : Params → PySem.W.Frag} (hn : l.most = some 63) (hdf : d.params.defaults = [])
    (hY : ∀ (w : World) (h : Heap), YP w h → (K w.params).In h)
    (F : ∀ (w : World) (mg : Str → Option Value) (fa : Addr) (h : Heap), (K w.params).In h → h.Ns mainGlobals mg → mg d.name = some (.ref fa) →
      ∃ fd : FuncData, (∀ (s : Shared) (u : Value), BindsTo s fd ⟨[u], []⟩ [("_law_script", u)]) ∧ ∀ base : Heap, (K w.params).In base → base.Ns mainGlobals mg → FnG l.prog w (K w.params) mg base CX0 8 fa fd ["_law_script"] (sp_law (K w.params))) :
    PySem.W.WalkO q loose XP YP l.row.toRowW d [] (fun f vs => PySem.call f vs) :=
  L2.walk_ofG (n := 63) (k := 8) (x := "_law_script") (CX := fun _ => CX0) (sp := fun w => sp_law (K w.params)) hn (by decide) hdf ⟨rfl, by decide, by decide⟩ hY F (fun _ _ a ns hl _ hS => ⟨a, ns, rfl, hS, hl, fun _ => rfl⟩) fun _ _ _ _ _ z => z
end My

open PySem PySem.W PyProof.Rows
set_option maxRecDepth 100000 in
set_option maxHeartbeats 0 in
theorem PySem.Challenge.cw_servedalone_k07_whole_what_the_net_write_holds : PySem.Challenge.rw_servedalone_k07_whole_what_the_net_write.Holds := by
  w_on; o_law; k_head; (case hw => w_witness2)
  k_fill
  refine My.walk (l := PySem.Challenge.rw_servedalone_k07_whole_what_the_net_write) rfl rfl (fun w h Y => PySem.W.kIn_of Y) ?F
  case F =>
    intro w mg fa h KX G hmg
    refine' My.all_mk KX G hmg ?aCNet ?pgNet ?hdNet ?poNet ?saNet ?mkNet ?kcNet ?nNet_prime ?nNet_embed ?nNet_shift ?nNet_layers ?nNet_out ?nNet_end ?aCAsk ?pgAsk ?hdAsk ?poAsk ?saAsk ?mkAsk ?kcAsk ?nAsk_prompt ?nAsk_most ?nAsk_stops ?nAsk_tape ?nAsk_rule ?aCRule ?pgRule ?hdRule ?poRule ?saRule ?mkRule ?kcRule ?nRule_start ?nRule_steps ?aCServeError ?eiServeError ?etServeError ?ebServeError ?ehServeError ?aCInvalidNumber ?eiInvalidNumber ?etInvalidNumber ?ebInvalidNumber ?ehInvalidNumber ?aCInvalidLetter ?eiInvalidLetter ?etInvalidLetter ?ebInvalidLetter ?ehInvalidLetter ?aCNoHouse ?eiNoHouse ?etNoHouse ?ebNoHouse ?ehNoHouse ?aCNoRequest ?eiNoRequest ?etNoRequest ?ebNoRequest ?ehNoRequest ?aCNoRoom ?eiNoRoom ?etNoRoom ?ebNoRoom ?ehNoRoom ?aCNotAlone ?eiNotAlone ?etNotAlone ?ebNotAlone ?ehNotAlone ?aCNotHeld ?eiNotHeld ?etNotHeld ?ebNotHeld ?ehNotHeld ?aCTooLarge ?eiTooLarge ?etTooLarge ?ebTooLarge ?ehTooLarge ?aKPRIMES ?lKPRIMES ?vKPRIMES ?aKMOST_LETTERS ?aInvalidLetter___init__ ?iInvalidLetter___init__ ?lInvalidLetter___init__ ?cInvalidLetter___init__ ?kInvalidLetter___init__ ?arows_of ?lrows_of ?crows_of ?krows_of ?acheck_letters ?lcheck_letters ?ccheck_letters ?kcheck_letters ?astop_length ?lstop_length ?cstop_length ?kstop_length ?anext_text ?lnext_text ?cnext_text ?knext_text ?awritten ?lwritten ?cwritten ?kwritten ?kdwritten ?kwwritten ?ais_between ?lis_between ?cis_between ?kis_between ?avector_of ?lvector_of ?cvector_of ?kvector_of ?amatrix_of ?lmatrix_of ?cmatrix_of ?kmatrix_of ?aproduct_sum ?lproduct_sum ?cproduct_sum ?kproduct_sum ?aNet___init__ ?iNet___init__ ?lNet___init__ ?cNet___init__ ?kNet___init__ ?aNet_is_letter ?iNet_is_letter ?lNet_is_letter ?cNet_is_letter ?kNet_is_letter ?aNet_rest ?iNet_rest ?lNet_rest ?cNet_rest ?kNet_rest ?aNet_times ?iNet_times ?lNet_times ?cNet_times ?kNet_times ?aNet_plus ?iNet_plus ?lNet_plus ?cNet_plus ?kNet_plus ?aNet_looked_at ?iNet_looked_at ?lNet_looked_at ?cNet_looked_at ?kNet_looked_at ?aNet_row ?iNet_row ?lNet_row ?cNet_row ?kNet_row ?agreatest ?lgreatest ?cgreatest ?kgreatest ?aby_number ?lby_number ?cby_number ?kby_number ?aAsk___init__ ?iAsk___init__ ?lAsk___init__ ?cAsk___init__ ?kAsk___init__ ?aAsk_let_weights ?iAsk_let_weights ?lAsk_let_weights ?cAsk_let_weights ?kAsk_let_weights ?aAsk_choice ?iAsk_choice ?lAsk_choice ?cAsk_choice ?kAsk_choice ?aRule___init__ ?iRule___init__ ?lRule___init__ ?cRule___init__ ?kRule___init__ ?aRule_after ?iRule_after ?lRule_after ?cRule_after ?kRule_after ?aRule_lets ?iRule_lets ?lRule_lets ?cRule_lets ?kRule_lets ?aL_numbers ?lL_numbers ?cL_numbers ?kL_numbers ?aL_same ?lL_same ?cL_same ?kL_same ?aL_vector ?lL_vector ?cL_vector ?kL_vector ?aL_net ?lL_net ?cL_net ?kL_net ?aL_dot ?lL_dot ?cL_dot ?kL_dot ?aL_times ?lL_times ?cL_times ?kL_times ?aL_row ?lL_row ?cL_row ?kL_row ?aL_rows ?lL_rows ?cL_rows ?kL_rows ?aL_after ?lL_after ?cL_after ?kL_after ?aL_counted ?lL_counted ?cL_counted ?kL_counted ?aL_choice ?lL_choice ?cL_choice ?kL_choice ?aL_rule ?lL_rule ?cL_rule ?kL_rule ?aL_stops ?lL_stops ?cL_stops ?kL_stops ?aL_tape ?lL_tape ?cL_tape ?kL_tape ?aL_ask ?lL_ask ?cL_ask ?kL_ask ?aL_ends ?lL_ends ?cL_ends ?kL_ends ?aL_stopped ?lL_stopped ?cL_stopped ?kL_stopped ?aL_written ?lL_written ?cL_written ?kL_written ?aL_made ?lL_made ?cL_made ?kL_made ?aL_odd ?lL_odd ?cL_odd ?kL_odd ?aL_put ?lL_put ?cL_put ?kL_put ?aL_spoilt ?lL_spoilt ?cL_spoilt ?kL_spoilt ?aL_first_bad ?lL_first_bad ?cL_first_bad ?kL_first_bad ?aL_refuses ?lL_refuses ?cL_refuses ?kL_refuses ?alaw ?llaw ?claw ?klaw ?xlInvalidLetter ?xaInvalidLetter ?xkInvalidLetter ?xtInvalidLetter ?xnInvalidLetter ?xgInvalidLetter ?xhInvalidLetter ?xcInvalidLetter ?xsInvalidLetter ?xuInvalidLetter ?xmInvalidLetter ?xvInvalidLetter ?suInvalidLetter_ServeError ?suInvalidLetter_InvalidNumber ?suInvalidLetter_InvalidLetter ?suInvalidLetter_NoHouse ?suInvalidLetter_NoRequest ?suInvalidLetter_NoRoom ?suInvalidLetter_NotAlone ?suInvalidLetter_NotHeld ?suInvalidLetter_TooLarge ?zValueError ?zabs ?zbool ?zenumerate ?zint ?zisinstance ?zlen ?zlist ?zmax ?zmin ?zrange ?zrepr ?zstr ?zsum ?ztuple ?zzip
    (case aCNet => k_is)
    (case pgNet => k_is)
    (case hdNet => k_is)
    (case poNet => k_is)
    (case saNet => k_is)
    (case mkNet => k_is)
    (case kcNet => k_is)
    (case nNet_prime => k_is)
    (case nNet_embed => k_is)
    (case nNet_shift => k_is)
    (case nNet_layers => k_is)
    (case nNet_out => k_is)
    (case nNet_end => k_is)
    (case aCAsk => k_is)
    (case pgAsk => k_is)
    (case hdAsk => k_is)
    (case poAsk => k_is)
    (case saAsk => k_is)
    (case mkAsk => k_is)
    (case kcAsk => k_is)
    (case nAsk_prompt => k_is)
    (case nAsk_most => k_is)
    (case nAsk_stops => k_is)
    (case nAsk_tape => k_is)
    (case nAsk_rule => k_is)
    (case aCRule => k_is)
    (case pgRule => k_is)
    (case hdRule => k_is)
    (case poRule => k_is)
    (case saRule => k_is)
    (case mkRule => k_is)
    (case kcRule => k_is)
    (case nRule_start => k_is)
    (case nRule_steps => k_is)
    (case aCServeError => k_is)
    (case eiServeError => k_is)
    (case etServeError => k_is)
    (case ebServeError => k_is)
    (case ehServeError => k_is)
    (case aCInvalidNumber => k_is)
    (case eiInvalidNumber => k_is)
    (case etInvalidNumber => k_is)
    (case ebInvalidNumber => k_is)
    (case ehInvalidNumber => k_is)
    (case aCInvalidLetter => k_is)
    (case eiInvalidLetter => k_is)
    (case etInvalidLetter => k_is)
    (case ebInvalidLetter => k_is)
    (case ehInvalidLetter => k_is)
    (case aCNoHouse => k_is)
    (case eiNoHouse => k_is)
    (case etNoHouse => k_is)
    (case ebNoHouse => k_is)
    (case ehNoHouse => k_is)
    (case aCNoRequest => k_is)
    (case eiNoRequest => k_is)
    (case etNoRequest => k_is)
    (case ebNoRequest => k_is)
    (case ehNoRequest => k_is)
    (case aCNoRoom => k_is)
    (case eiNoRoom => k_is)
    (case etNoRoom => k_is)
    (case ebNoRoom => k_is)
    (case ehNoRoom => k_is)
    (case aCNotAlone => k_is)
    (case eiNotAlone => k_is)
    (case etNotAlone => k_is)
    (case ebNotAlone => k_is)
    (case ehNotAlone => k_is)
    (case aCNotHeld => k_is)
    (case eiNotHeld => k_is)
    (case etNotHeld => k_is)
    (case ebNotHeld => k_is)
    (case ehNotHeld => k_is)
    (case aCTooLarge => k_is)
    (case eiTooLarge => k_is)
    (case etTooLarge => k_is)
    (case ebTooLarge => k_is)
    (case ehTooLarge => k_is)
    (case aKPRIMES => k_is)
    (case lKPRIMES => k_is)
    (case vKPRIMES => refine ⟨by decide, ?_⟩; repeat (first | exact Paired.nil | refine Paired.cons ⟨_, rfl⟩ ?_))
    (case aKMOST_LETTERS => k_is)
    (case aInvalidLetter___init__ => k_is)
    (case iInvalidLetter___init__ => k_is)
    (case lInvalidLetter___init__ => k_is)
    (case cInvalidLetter___init__ => k_is)
    (case kInvalidLetter___init__ => k_is)
    (case arows_of => k_is)
    (case lrows_of => k_is)
    (case crows_of => k_is)
    (case krows_of => k_is)
    (case acheck_letters => k_is)
    (case lcheck_letters => k_is)
    (case ccheck_letters => k_is)
    (case kcheck_letters => k_is)
    (case astop_length => k_is)
    (case lstop_length => k_is)
    (case cstop_length => k_is)
    (case kstop_length => k_is)
    (case anext_text => k_is)
    (case lnext_text => k_is)
    (case cnext_text => k_is)
    (case knext_text => k_is)
    (case awritten => k_is)
    (case lwritten => k_is)
    (case cwritten => k_is)
    (case kwritten => k_is)
    (case kdwritten => k_is)
    (case kwwritten => k_is)
    (case ais_between => k_is)
    (case lis_between => k_is)
    (case cis_between => k_is)
    (case kis_between => k_is)
    (case avector_of => k_is)
    (case lvector_of => k_is)
    (case cvector_of => k_is)
    (case kvector_of => k_is)
    (case amatrix_of => k_is)
    (case lmatrix_of => k_is)
    (case cmatrix_of => k_is)
    (case kmatrix_of => k_is)
    (case aproduct_sum => k_is)
    (case lproduct_sum => k_is)
    (case cproduct_sum => k_is)
    (case kproduct_sum => k_is)
    (case aNet___init__ => k_is)
    (case iNet___init__ => k_is)
    (case lNet___init__ => k_is)
    (case cNet___init__ => k_is)
    (case kNet___init__ => k_is)
    (case aNet_is_letter => k_is)
    (case iNet_is_letter => k_is)
    (case lNet_is_letter => k_is)
    (case cNet_is_letter => k_is)
    (case kNet_is_letter => k_is)
    (case aNet_rest => k_is)
    (case iNet_rest => k_is)
    (case lNet_rest => k_is)
    (case cNet_rest => k_is)
    (case kNet_rest => k_is)
    (case aNet_times => k_is)
    (case iNet_times => k_is)
    (case lNet_times => k_is)
    (case cNet_times => k_is)
    (case kNet_times => k_is)
    (case aNet_plus => k_is)
    (case iNet_plus => k_is)
    (case lNet_plus => k_is)
    (case cNet_plus => k_is)
    (case kNet_plus => k_is)
    (case aNet_looked_at => k_is)
    (case iNet_looked_at => k_is)
    (case lNet_looked_at => k_is)
    (case cNet_looked_at => k_is)
    (case kNet_looked_at => k_is)
    (case aNet_row => k_is)
    (case iNet_row => k_is)
    (case lNet_row => k_is)
    (case cNet_row => k_is)
    (case kNet_row => k_is)
    (case agreatest => k_is)
    (case lgreatest => k_is)
    (case cgreatest => k_is)
    (case kgreatest => k_is)
    (case aby_number => k_is)
    (case lby_number => k_is)
    (case cby_number => k_is)
    (case kby_number => k_is)
    (case aAsk___init__ => k_is)
    (case iAsk___init__ => k_is)
    (case lAsk___init__ => k_is)
    (case cAsk___init__ => k_is)
    (case kAsk___init__ => k_is)
    (case aAsk_let_weights => k_is)
    (case iAsk_let_weights => k_is)
    (case lAsk_let_weights => k_is)
    (case cAsk_let_weights => k_is)
    (case kAsk_let_weights => k_is)
    (case aAsk_choice => k_is)
    (case iAsk_choice => k_is)
    (case lAsk_choice => k_is)
    (case cAsk_choice => k_is)
    (case kAsk_choice => k_is)
    (case aRule___init__ => k_is)
    (case iRule___init__ => k_is)
    (case lRule___init__ => k_is)
    (case cRule___init__ => k_is)
    (case kRule___init__ => k_is)
    (case aRule_after => k_is)
    (case iRule_after => k_is)
    (case lRule_after => k_is)
    (case cRule_after => k_is)
    (case kRule_after => k_is)
    (case aRule_lets => k_is)
    (case iRule_lets => k_is)
    (case lRule_lets => k_is)
    (case cRule_lets => k_is)
    (case kRule_lets => k_is)
    (case aL_numbers => k_is)
    (case lL_numbers => k_is)
    (case cL_numbers => k_is)
    (case kL_numbers => k_is)
    (case aL_same => k_is)
    (case lL_same => k_is)
    (case cL_same => k_is)
    (case kL_same => k_is)
    (case aL_vector => k_is)
    (case lL_vector => k_is)
    (case cL_vector => k_is)
    (case kL_vector => k_is)
    (case aL_net => k_is)
    (case lL_net => k_is)
    (case cL_net => k_is)
    (case kL_net => k_is)
    (case aL_dot => k_is)
    (case lL_dot => k_is)
    (case cL_dot => k_is)
    (case kL_dot => k_is)
    (case aL_times => k_is)
    (case lL_times => k_is)
    (case cL_times => k_is)
    (case kL_times => k_is)
    (case aL_row => k_is)
    (case lL_row => k_is)
    (case cL_row => k_is)
    (case kL_row => k_is)
    (case aL_rows => k_is)
    (case lL_rows => k_is)
    (case cL_rows => k_is)
    (case kL_rows => k_is)
    (case aL_after => k_is)
    (case lL_after => k_is)
    (case cL_after => k_is)
    (case kL_after => k_is)
    (case aL_counted => k_is)
    (case lL_counted => k_is)
    (case cL_counted => k_is)
    (case kL_counted => k_is)
    (case aL_choice => k_is)
    (case lL_choice => k_is)
    (case cL_choice => k_is)
    (case kL_choice => k_is)
    (case aL_rule => k_is)
    (case lL_rule => k_is)
    (case cL_rule => k_is)
    (case kL_rule => k_is)
    (case aL_stops => k_is)
    (case lL_stops => k_is)
    (case cL_stops => k_is)
    (case kL_stops => k_is)
    (case aL_tape => k_is)
    (case lL_tape => k_is)
    (case cL_tape => k_is)
    (case kL_tape => k_is)
    (case aL_ask => k_is)
    (case lL_ask => k_is)
    (case cL_ask => k_is)
    (case kL_ask => k_is)
    (case aL_ends => k_is)
    (case lL_ends => k_is)
    (case cL_ends => k_is)
    (case kL_ends => k_is)
    (case aL_stopped => k_is)
    (case lL_stopped => k_is)
    (case cL_stopped => k_is)
    (case kL_stopped => k_is)
    (case aL_written => k_is)
    (case lL_written => k_is)
    (case cL_written => k_is)
    (case kL_written => k_is)
    (case aL_made => k_is)
    (case lL_made => k_is)
    (case cL_made => k_is)
    (case kL_made => k_is)
    (case aL_odd => k_is)
    (case lL_odd => k_is)
    (case cL_odd => k_is)
    (case kL_odd => k_is)
    (case aL_put => k_is)
    (case lL_put => k_is)
    (case cL_put => k_is)
    (case kL_put => k_is)
    (case aL_spoilt => k_is)
    (case lL_spoilt => k_is)
    (case cL_spoilt => k_is)
    (case kL_spoilt => k_is)
    (case aL_first_bad => k_is)
    (case lL_first_bad => k_is)
    (case cL_first_bad => k_is)
    (case kL_first_bad => k_is)
    (case aL_refuses => k_is)
    (case lL_refuses => k_is)
    (case cL_refuses => k_is)
    (case kL_refuses => k_is)
    (case alaw => k_is)
    (case llaw => k_is)
    (case claw => k_is)
    (case klaw => k_is)
    (case xlInvalidLetter => k_is)
    (case xaInvalidLetter => k_is)
    (case xkInvalidLetter => k_is)
    (case xtInvalidLetter => k_is)
    (case xnInvalidLetter => k_is)
    (case xgInvalidLetter => k_is)
    (case xhInvalidLetter => k_is)
    (case xcInvalidLetter => k_is)
    (case xsInvalidLetter => k_is)
    (case xuInvalidLetter => k_is)
    (case xmInvalidLetter => k_is)
    (case xvInvalidLetter => k_is)
    (case suInvalidLetter_ServeError => k_is)
    (case suInvalidLetter_InvalidNumber => k_is)
    (case suInvalidLetter_InvalidLetter => k_is)
    (case suInvalidLetter_NoHouse => k_is)
    (case suInvalidLetter_NoRequest => k_is)
    (case suInvalidLetter_NoRoom => k_is)
    (case suInvalidLetter_NotAlone => k_is)
    (case suInvalidLetter_NotHeld => k_is)
    (case suInvalidLetter_TooLarge => k_is)
    (case zValueError => k_is)
    (case zabs => k_is)
    (case zbool => k_is)
    (case zenumerate => k_is)
    (case zint => k_is)
    (case zisinstance => k_is)
    (case zlen => k_is)
    (case zlist => k_is)
    (case zmax => k_is)
    (case zmin => k_is)
    (case zrange => k_is)
    (case zrepr => k_is)
    (case zstr => k_is)
    (case zsum => k_is)
    (case ztuple => k_is)
    (case zzip => k_is)
#print axioms PySem.Challenge.cw_servedalone_k07_whole_what_the_net_write_holds
