import PyProof.Rows.All
import Wide.All
import OpenK.AllK
import Wide.FinOn
import HandS.ForMost
import HandS.Walk
import HandS.IsInst
import HandS.Evl
import HandS.Property
import HandS.WideBits
import HandS.Conv
import HandS.TupAny
import HandS.MakeKwOnly
import HandS.Defaults
import HandS.ExcInit
import HandS.ExcField
import HandS.ExcIs
import HandS.ExcOwn
import HandS.WordsExc
import HandS.RaiseMore
import HandS.HotCalls
import HandS.SetFor
import PyProof.ReprRoads
import PyProof.ReprBulk
import PyProof.InstNe
import KE.KTupSum
import KE.GoesMore
import KE.GoesEnum
import KE.GoesZip
import HandS.Style
import HandS.DictTup
import HandS.TupLen
import HandS.IterNext
import HandS.IterVal
import HandS.NamedTupGet
import PyProof.DictMoreH
import KE.KOwnIter
import PyProof.CollectWalk
import HandS.SortRule
import HandS.NamedTupSort
import KE.KDictList
import KE.KDictCopyH
import KE.KSortTupAny
import HandS.DictComp
import PySem.Challenge.RW_servedalone_k22_used_longest_ago
set_option Elab.async false
set_option linter.all false
set_option maxRecDepth 100000
set_option maxHeartbeats 4000000
namespace L2
open PySem PySem.Spec PyProof.Rows

/-! ### own rules: either of two readings; sums, enumerate and walks of lists or tuples -/
theorem PI.or {X : Cx} {tg iter : Expr} {w1 w2 : TI} (h1 : PI X tg iter w1) (h2 : PI X tg iter w2) : PI X tg iter (fun σ H R => w1 σ H R ∨ w2 σ H R) := by
  refine ⟨fun pins s σ H R I h => ?_⟩
  rcases h with h | h
  · exact h1.run pins s σ H R I h
  · exact h2.run pins s σ H R I h

section
variable {X : Cx}
def rAddG (K : PySem.W.Frag) : R2 := fun x y H Q => (rI0 fun i j => .int (i + j)) x y H Q ∨ rCatT K x y H Q ∨ rCat x y H Q
theorem op_addG : OpR X (binaryOp .Add) (rAddG X.K) := op_add.or (op_catT.or op_cat)
def rEqG (K : PySem.W.Frag) : R2 := fun x y H Q => rEq x y H Q ∨ rEqD K x y H Q
def rNeG (K : PySem.W.Frag) : R2 := fun x y H Q => rNe x y H Q ∨ rNeD K x y H Q
theorem op_eqG (hu : X.A.units + 64 < cLine) : OpR X (compareOp .Eq) (rEqG X.K) := op_eq.or (op_eqD hu)
theorem op_neG (hu : X.A.units + 64 < cLine) : OpR X (compareOp .NotEq) (rNeG X.K) := op_ne.or (op_neD hu)
def rSlG (K : PySem.W.Frag) : V → Option Int → Option Int → Hp → VK → Prop := fun x lo hi H Q => rSlL K x lo hi H Q ∨ rSlA K x lo hi H Q
theorem sl_seqG : SlR X (rSlG X.K) := sl_list.or sl_tupA
def rSumS (K : PySem.W.Frag) : List V → Hp → VK → Prop := fun vs H Q => ∃ (a : Addr) (ns : List Int), vs = [V.ref a] ∧ (SqL K H a (ns.map V.int) ∨ SqT K H a (ns.map V.int)) ∧ Q (.int ns.sum) H
theorem cr_sumS (hc : X.calm = true) : CallR X (.builtin "sum") (rSumS X.K) := by
  intro pins s σ H vs us Q I r h
  obtain ⟨a, ns, rfl, hs, q⟩ := h
  rw [Vals.ref1 r]
  rcases hs with hs | hs
  · obtain ⟨its, rv, hl, _⟩ := I.list hs
    exact sum_raw (I.ok.hd hc) hl.isList rv.ints fun h' tk t' hk => ⟨.int _, H, I.kept hk, ⟨_, rfl⟩, q⟩
  · obtain ⟨its, rv, ht, _⟩ := I.tuple hs
    have hi := rv.ints
    obtain ⟨xs, e⟩ := hi.allInts.items
    have hn : numsOf (intItems xs).toList = ns := by rw [← e]; exact hi.numsOf
    rw [nums_intItems] at hn
    have ht' : s.heap.IsTuple a its.toArray := ht
    rw [e] at ht'
    refine PySem.W.ktm_sumG (I.ok.hd hc) ht' fun h' tk t' hk => ⟨.int ns.sum, H, I.kept hk, ⟨t', ?_⟩, q⟩
    rw [preSum_eq, List.take_of_length_le (by simp), hn]

end

/-! ### enumerate(tuple) -/
def IteT (K : PySem.W.Frag) (a : Addr) : It :=
  ⟨fun i H => ∃ (xs : List V) (x : V), SqT K H a xs ∧ xs[i]? = some x, fun i H v H' => ∃ T x, v = .ref T ∧ H T = none ∧ H' = upd H T (.tup [.int (i : Nat), x]) ∧ ∀ xs, SqT K H a xs → xs[i]? = some x, fun i H => ∃ xs : List V, SqT K H a xs ∧ xs.length ≤ i⟩
theorem tup_ne_iter {h : Heap} {a it : Addr} {items : Array Value} {i : Nat} (p : IsTup h a items) (q : h.IsTupleIter it a i) : a ≠ it := by
  obtain ⟨o, ho, hc, _⟩ := p
  obtain ⟨o', ho', hc', _⟩ := q
  intro e
  subst e
  rw [ho] at ho'
  cases ho'
  rw [hc] at hc'
  exact absurd hc' (by decide)
theorem meets_enumerate_newT (l : Addr) (items : Array Value) :
    Meets (Builtin.«enumerate.__new__» ⟨[.type "enumerate", .ref l], []⟩) (fun _ R s => s.heap.IsTuple l items ∧
      R (.ok (.ret (.ref (s.heap.push { cls := .type "tuple_iterator", data := .fields #[.ref l, .int 0 0] }).objs.size)))
        { s with heap := (s.heap.push { cls := .type "tuple_iterator", data := .fields #[.ref l, .int 0 0] }).push { cls := .type "enumerate", data := .fields #[.none, .bool false, .ref s.heap.objs.size, rawInt 0, .none, .none] } }) :=
  .of_wp fun prog w A R s h => by
    obtain ⟨hp, g, d, tk, os⟩ := s; obtain ⟨h1, h⟩ := h
    have hsub := sub_enumerate
    have q1 : ∀ {A' : Around} {E : Value → Shared → Prop} {Q : Value → Shared → Prop}, Q (.ref hp.objs.size) ⟨hp.push { cls := .type "tuple_iterator", data := .fields #[.ref l, .int 0 0] }, g, d, tk, os⟩ → wpAny (model prog w) A' (pyIter (.ref l)) Q E ⟨hp, g, d, tk, os⟩ :=
      fun q => wpAny_pyIter_tuple (s := ⟨hp, g, d, tk, os⟩) h1 q
    wp_walk using q1
    refine wpAny_stack_any fun st => wpAny_pure ?_
    split
    · rename_i c _ _ _ _ _
      cases (c == Value.type "enumerate")
      · wp_walk using q1
        exact ⟨_, rfl, h⟩
      · wp_walk using q1
        exact ⟨_, rfl, h⟩
    · wp_walk using q1
      exact ⟨_, rfl, h⟩
theorem call_enumerate_tup {prog : Program} {w : World} {A : Around} {E : Value → Shared → Prop} {s : Shared} {l : Addr} {items : Array Value} {Q : Value → Shared → Prop} (hL : s.heap.IsTuple l items)
    (h : ∀ h', IsEnum h' (s.heap.objs.size + 1) s.heap.objs.size 0 .none → h'.IsTupleIter s.heap.objs.size l 0 → h'.objs.size = s.heap.objs.size + 2 →
      (∀ b o, s.heap.get? b = some o → h'.get? b = some o) → Q (.ref (s.heap.objs.size + 1)) { s with heap := h' }) :
    wpAny (model prog w) A (call (.type "enumerate") [.ref l]) Q E s := by
  refine callType_new F.called_enumerate (by decide) (F.typeCall_enumerate_1 _) (F.newCall_enumerate_1 _) (fun obj => F.args_object_init_2 obj _) F.entry_enumerate_new
    (meets_enumerate_newT l items) ⟨hL, ?_⟩
  have hz : (s.heap.push { cls := .type "tuple_iterator", data := .fields #[.ref l, .int 0 0] }).objs.size = s.heap.objs.size + 1 := Heap.size_push ..
  show _ ∧ _
  rw [hz]
  have he : IsEnum ((s.heap.push { cls := .type "tuple_iterator", data := .fields #[.ref l, .int 0 0] }).push
      { cls := .type "enumerate", data := .fields #[.none, .bool false, .ref s.heap.objs.size, rawInt 0, .none, .none] }) (s.heap.objs.size + 1) s.heap.objs.size 0 .none := by
    have := Heap.get?_push_size (s.heap.push { cls := .type "tuple_iterator", data := .fields #[.ref l, .int 0 0] })
      (o := { cls := .type "enumerate", data := .fields #[.none, .bool false, .ref s.heap.objs.size, rawInt 0, .none, .none] }) rfl
    rw [hz] at this; exact this
  refine ⟨⟨_, he, rfl⟩, h _ he ⟨_, Heap.get?_push_of_some _ (Heap.get?_push_size _ rfl), rfl, rfl⟩ (by rw [Heap.size_push, hz]) fun b o x => Heap.get?_push_of_some _ (Heap.get?_push_of_some _ x)⟩
theorem turn_enumT {P : Program} {w : World} {K : PySem.W.Frag} {elts : List Expr} {kk : Nat} {tpos : Pos} (a e it : Addr) :
    Turn P w K (.Tuple elts kk tpos) (IteT K a) [e, it] e (fun i h => (∃ old, IsEnum h e it ((i : Nat) : Int) old) ∧ h.IsTupleIter it a i ∧ e ≠ it) where
  mem := by simp
  obj := fun i h st b hb => by
    obtain ⟨⟨old, he⟩, ⟨o, ho, hc, hd⟩, _⟩ := st
    have e' : b = e ∨ b = it := by simpa using hb
    rcases e' with z | z
    · rw [z]; exact ⟨_, he, fun v q => nomatch q⟩
    · rw [z]; exact ⟨o, ho, fun v q => by rw [hd] at q; cases q⟩
  keep := fun i h h' st k => let ⟨⟨old, he⟩, hi, hne⟩ := st; ⟨⟨old, k e (by simp) _ he⟩, hi.at fun o q => k it (by simp) o q, hne⟩
  item := by
    intro X hP hw hK hc i pins s σ H E I hf st hg
    subst hP hw hK
    obtain ⟨⟨old, he⟩, hit, hne⟩ := st
    obtain ⟨xs, x, hq, hx⟩ := hg
    obtain ⟨its, rv, p, hz⟩ := I.tuple hq
    obtain ⟨u, hu, ru⟩ := rv.get hx
    have hai : a ≠ it := tup_ne_iter p hit
    have hel : e < s.heap.objs.size := Heap.lt_size he
    have hil : it < s.heap.objs.size := by obtain ⟨_, q, _⟩ := hit; exact Heap.lt_size q
    have hal : a < s.heap.objs.size := by obtain ⟨_, q, _⟩ := p; exact Heap.lt_size q
    have hae : e ≠ a := by
      obtain ⟨o, ho, hcl, _⟩ := id p
      intro z
      rw [← z, he] at ho
      cases ho
      have hcl' : (Value.type "enumerate") = Value.type "tuple" := hcl
      exact absurd hcl' (by decide)
    have hlt : i < its.toArray.size := by
      have h1 := (List.getElem?_eq_some_iff.mp hu).1
      simpa using h1
    refine wpAny_pyNext_enum_itemD (Draws.tuple (prog := X.prog) (w := X.w) (A := X.A.in1) (show X.A.in1.handled = none from I.ok.hd hc) it a hai its.toArray) he ⟨hit, p⟩ hlt hne (by simp [hne, hae]) fun y h' tk hP ho st' hT hsz hk => ?_
    have ey : y = u := by
      have h1 : its.toArray[i]? = some y := hP
      have h2 : its.toArray[i]? = some u := by simpa using hu
      rw [h1] at h2
      exact Option.some.inj h2
    subst ey
    refine ⟨_, rfl, wpAny_letOwnedTupleGo_enum (s := { s with heap := h', toks := tk + 1 }) ho fun h'' he' sb => ?_⟩
    have hT2 : h''.get? s.heap.objs.size = some { cls := .type "tuple", data := .seq #[.int i tk, y] } := (sb.2 _ (Nat.ne_of_gt hel)).trans hT
    have new : ObjOk X.prog X.w (upd H s.heap.objs.size (.tup [.int (i : Nat), x])) h'' s.heap.objs.size (.tup [.int (i : Nat), x]) :=
      ⟨by show 2 ≤ sizeLine; decide, [.int i tk, y], .cons ⟨_, rfl⟩ (.cons ru .nil), ⟨_, hT2, rfl, _, rfl⟩⟩
    have I1 : Inv X pins σ (upd H s.heap.objs.size (.tup [.int (i : Nat), x])) { s with heap := h'', toks := tk + 1 } :=
      I.turnedNew (t' := tk + 1) (ch := [e, it]) (fun b ob hb q => (sb.2 b (fun z => hb (by simp [z]))).trans (hk b ob (fun z => hb (by simp [z])) (fun z => hb (by simp [z])) q)) hf (Nat.le_refl _) new
    refine ⟨.ref s.heap.objs.size, _, I1, rfl, ⟨_, x, rfl, I.hok.fresh (Nat.le_refl _), rfl, fun ys hy => by rw [I.tuple_inj hy hq]; exact hx⟩, ⟨⟨y, ?_⟩, st'.1.at fun o q => (sb.2 it (Ne.symm hne)).trans q, hne⟩, fun b hb => ?_⟩
    · have e1 : ((i + 1 : Nat) : Int) = (i : Int) + 1 := by omega
      rw [e1]; exact he'
    · have hb' : b < s.heap.objs.size := by
        have e' : b = e ∨ b = it := by simpa using hb
        rcases e' with z | z
        · rw [z]; exact hel
        · rw [z]; exact hil
      rw [upd_ne (Nat.ne_of_lt hb')]
      exact (hf b hb).1
  done := by
    intro X hP hw hK hc i pins s σ H E I hf st hg
    subst hP hw hK
    obtain ⟨⟨old, he⟩, hit, hne⟩ := st
    obtain ⟨xs, hq, hx⟩ := hg
    obtain ⟨its, rv, p, hz⟩ := I.tuple hq
    have hai : a ≠ it := tup_ne_iter p hit
    obtain ⟨f0, f1, f2, f3, f4, f5⟩ := hf it (by simp)
    have hl := rv.length
    unfold pyNext
    have hT : s.TypeIs (.ref e) "enumerate" := ⟨_, he, rfl⟩
    refine wpAny_bind (wpAny_attempt (wpAny_callSpecial?_slot (name := Str.ofString "__next__") hT F.slot_enumerate_next
      (wpAny_call_entry F.slot_enumerate_next hT F.entry_enumerate_next ?_ (F.args_enumerate_next_1 _))))
    show wpAny _ _ (field (.ref e) 2 >>= _) _ _ _
    refine wpAny_bind (wpAny_field he rfl (x := .ref it) rfl ?_)
    refine wpAny_bind (wpAny_nextOf_tuple_end (show X.A.in1.handled = none from I.ok.hd hc) hit p (by simp; omega) fun h' x he' hx' => ?_)
    obtain ⟨o, ho, hcx⟩ := hx'
    refine wpAny_bind (wpAny_isInstance (T := "StopIteration") (b := true) ⟨o, ho, hcx⟩ isSubtype_stop ?_)
    exact wpAny_pure ⟨rfl, I.turned (t' := s.toks) (fun b o hb q => he' b o hb q) f0 f1 f3 f4 f5⟩
  self := fun A i s Q E st h => let ⟨⟨_, he⟩, _⟩ := st; wpAny_pyIter_enum he h
def iEnumT (K : PySem.W.Frag) (ta : TA) : TI := fun σ H R => ta σ H fun vs H1 => ∃ a xs, vs = [.ref a] ∧ SqT K H1 a xs ∧ R (IteT K a) H1
theorem pi_enumT {X : Cx} {e : Expr} {ta : TA} {p pos tpos : Pos} {elts : List Expr} {kk : Nat} (hg : Gl X "enumerate") (hm : X.mg "enumerate" = none) (ha : PA X [e] ta) (hs : starEach [e] X.env = [(false, eval e X.env)] := by rfl) :
    PI X (.Tuple elts kk tpos) (.Call (.Name "enumerate" p) [e] [] pos) (iEnumT X.K ta) := by
  refine ⟨fun pins s σ H R I h => ?_⟩
  refine Call_ (ld_blt I hg hm boot_enumerate (PyProof.Rows.callWith_type1 (thn (ha.run pos pins s σ H _ I h) fun us s1 ⟨vs, H1, I1, r1, q1⟩ => ?_) hs rfl))
  obtain ⟨a, xs, ex, hq, q⟩ := q1
  subst ex
  cases r1 with
  | cons r rr =>
    cases rr
    cases r
    obtain ⟨its, rv, p', hz⟩ := I1.tuple hq
    refine call_enumerate_tup p' fun h' he hit hsz hk => wpAny_pyIter_enum he ?_
    have I2 : Inv X pins σ H1 { s1 with heap := h' } := I1.kept (t' := s1.toks) hk
    refine ⟨s1.heap.objs.size + 1, [s1.heap.objs.size + 1, s1.heap.objs.size], _, _, H1, rfl, I2, turn_enumT a (s1.heap.objs.size + 1) s1.heap.objs.size, ⟨⟨.none, he⟩, hit, Nat.succ_ne_self _⟩, fun b hb => ?_, q⟩
    have e' : b = s1.heap.objs.size + 1 ∨ b = s1.heap.objs.size := by simpa using hb
    have hle : s1.heap.objs.size ≤ b := by
      rcases e' with z | z
      · rw [z]; exact Nat.le_add_right _ _
      · rw [z]; exact Nat.le_refl _
    exact I1.fpOk hle (I1.hok.fresh hle)
theorem walk_enumT {K : PySem.W.Frag} {a : Addr} {xs : List V} : Walk (IteT K a) xs.length (fun H => SqT K H a xs) (YPair (fun i => some (.int (i : Nat))) (fun i => xs[i]?)) := by
  refine ⟨fun i _ hi q => ⟨xs, xs[i], q, by simp [hi]⟩, fun _ q => ⟨xs, q, Nat.le_refl _⟩, fun i H v H' _ q y => ?_⟩
  obtain ⟨T, x, h1, h2, h3, h4⟩ := y
  exact ⟨T, .int (i : Nat), x, h1, h2, h3, rfl, h4 xs q⟩
end L2

namespace L2
open PySem PySem.Spec PyProof.Rows

/-! ### names for readings -/
section
variable {X : Cx}
def rInt1 : List V → Hp → VK → Prop := fun xs H Q => (∃ i, xs = [.int i] ∧ Q (.int i) H) ∨ ∃ k, xs = [.bl k] ∧ Q (.int (if k then 1 else 0)) H
theorem cr_int1 : CallR X (.type "int") rInt1 := call_int1
def rAbs : List V → Hp → VK → Prop := fun xs H Q => ∃ i, xs = [.int i] ∧ Q (.int (if i < 0 then -i else i)) H
theorem cr_abs : CallR X (.builtin "abs") rAbs := call_abs
def rMax2 : List V → Hp → VK → Prop := fun xs H Q => ∃ i j, xs = [.int i, .int j] ∧ Q (.int (if j > i then j else i)) H
theorem cr_max2 (hc : X.calm = true) : CallR X (.builtin "max") rMax2 := call_max2 hc
def rMin2 : List V → Hp → VK → Prop := fun xs H Q => ∃ i j, xs = [.int i, .int j] ∧ Q (.int (if j < i then j else i)) H
theorem cr_min2 (hc : X.calm = true) : CallR X (.builtin "min") rMin2 := call_min2 hc
def rLenS (K : PySem.W.Frag) : List V → Hp → VK → Prop := fun xs H Q => ∃ p ys, xs = [.ref p] ∧ (SqL K H p ys ∨ SqT K H p ys) ∧ Q (.int ys.length) H
theorem cr_lenS : CallR X (.builtin "len") (rLenS X.K) := call_len_seq
def rListS (K : PySem.W.Frag) : List V → Hp → VK → Prop := fun xs H Q => ∃ p ys, xs = [.ref p] ∧ (SqL K H p ys ∨ SqT K H p ys) ∧ ∀ l, H l = none → Q (.ref l) (upd H l (.lst ys))
theorem cr_listS : CallR X (.type "list") (rListS X.K) := call_list_of
def rTupS (K : PySem.W.Frag) : List V → Hp → VK → Prop := fun xs H Q => ∃ p ys, xs = [.ref p] ∧ ((SqL K H p ys ∧ ∀ l, H l = none → Q (.ref l) (upd H l (.tup ys))) ∨ (SqT K H p ys ∧ Q (.ref p) H))
theorem cr_tupS : CallR X (.type "tuple") (rTupS X.K) := call_tuple_of
def rIsN : R2 := fun x y H Q => y = .non ∧ Q (.bl (decide (x = .non))) H
def rNotN : R2 := fun x y H Q => y = .non ∧ Q (.bl (!decide (x = .non))) H
theorem op_isNN : OpR X (compareOp .Is) rIsN := op_isN
theorem op_notNN : OpR X (compareOp .IsNot) rNotN := op_notN
def tTru (K : PySem.W.Frag) (ta : TE) : TT := fun σ H Q => ta σ H fun x H' => ∃ k, TruV K x H' k ∧ Q k H'
theorem pt_tru {a : Expr} {ta : TE} (ha : PE X a ta) (he : ∀ whole, isTrue a X.env whole = (do let v ← whole; standAt a.pos; holding [v] (truthy v))) : PT X a (tTru X.K ta) := pt_truth ha he
end

/-! ### the readings, one step each -/
def nth (ns : List Int) (i : Int) : Int := ns.getD i.toNat 0
theorem nth_at {ns : List Int} {i : Int} (h0 : 0 ≤ i) (h1 : i < ns.length) : atI (ns.map V.int) i = some (.int (nth ns i)) := by
  have e : i = ((i.toNat : Nat) : Int) := (Int.toNat_of_nonneg h0).symm
  have h2 : i.toNat < ns.length := by omega
  have g : (ns.map V.int)[i.toNat]? = some (.int (nth ns i)) := by
    rw [List.getElem?_map, List.getElem?_eq_getElem h2]
    unfold nth
    rw [List.getD_eq_getElem?_getD, List.getElem?_eq_getElem h2]
    rfl
  exact at_of e g
theorem nth_nat (ns : List Int) (i : Nat) : nth ns (i : Int) = ns.getD i 0 := rfl
theorem nth_mem {ns : List Int} {i : Int} (h0 : 0 ≤ i) (h1 : i < ns.length) : nth ns i ∈ ns := by
  have h2 : i.toNat < ns.length := by omega
  unfold nth
  rw [List.getD_eq_getElem?_getD, List.getElem?_eq_getElem h2]
  exact List.getElem_mem h2

theorem Same.seqT {K : PySem.W.Frag} {H H' : Hp} {a : Addr} {xs : List V} (e : Same H H') (h : SqT K H a xs) : SqT K H' a xs := by
  rcases h with (h | ⟨o, h⟩) | h
  · exact .inl (.inl (e _ _ h))
  · exact .inl (.inr ⟨o, e _ _ h⟩)
  · exact .inr h
/-- a list (true) or a tuple (false) -/
def Sq (b : Bool) (K : PySem.W.Frag) (H : Hp) (a : Addr) (xs : List V) : Prop := match b with
  | true => SqL K H a xs
  | false => SqT K H a xs
theorem Sq.or {b : Bool} {K : PySem.W.Frag} {H : Hp} {a : Addr} {xs : List V} (h : Sq b K H a xs) : SqL K H a xs ∨ SqT K H a xs := by
  cases b
  · exact .inr h
  · exact .inl h
theorem Sq.lst {K : PySem.W.Frag} {H : Hp} {a : Addr} {xs : List V} (h : H a = some (.lst xs)) : Sq true K H a xs := SqL.of h
theorem Sq.tup {K : PySem.W.Frag} {H : Hp} {a : Addr} {xs : List V} (h : H a = some (.tup xs)) : Sq false K H a xs := SqT.of h
theorem Same.sq {b : Bool} {K : PySem.W.Frag} {H H' : Hp} {a : Addr} {xs : List V} (e : Same H H') (h : Sq b K H a xs) : Sq b K H' a xs := by
  cases b
  · exact e.seqT h
  · exact e.seq h
theorem Same.at {H H' : Hp} {a : Addr} {o : HO} (e : Same H H') (h : H a = some o) : H' a = some o := e a o h
theorem Same.new {H : Hp} {p : Addr} {o : HO} (h : H p = none) : Same H (upd H p o) := fun b x e => by
  rw [upd_ne (ne_of_none e h)]
  exact e
theorem Same.mut {H H' : Hp} {p : Addr} {o : HO} (e : Same H H') (h : H p = none) : Same H (upd H' p o) := fun a u ha => by
  rw [upd_ne (ne_of_none ha h)]
  exact e a u ha

section
variable {K : PySem.W.Frag} {σ σ' : St} {H : Hp} {v x y : V} {ta tb te : TE} {t u : TS} {D : Ends} {c d : TT} {Q : VK} {QB : Bool → Hp → Prop} {QA : List V → Hp → Prop} {r : R2}
theorem go_start (e : σ = σ') (h : t D σ' H) : t D σ H := by rw [e]; exact h
-- values
theorem w_var {i : Nat} (h : σ[i]? = some (some v)) (q : Q v H) : tVar i σ H Q := ⟨v, h, q⟩
theorem w_c (q : Q v H) : tC v σ H Q := q
theorem w_op (q : ta σ H fun x H1 => tb σ H1 fun y H2 => r x y H2 Q) : tOp r ta tb σ H Q := q
theorem w_un {r : V → Hp → VK → Prop} (q : ta σ H fun x H1 => r x H1 Q) : tUn r ta σ H Q := q
theorem w_rU {g : Int → V} {i : Int} (q : Q (g i) H) : rU g (.int i) H Q := ⟨i, rfl, q⟩
theorem w_I0 {g : Int → Int → V} {i j : Int} (q : Q (g i j) H) : rI0 g (.int i) (.int j) H Q := ⟨i, j, rfl, rfl, q⟩
theorem w_I {C : Int → Int → Prop} {g : Int → Int → V} {i j : Int} (hc : C i j) (q : Q (g i j) H) : rI C g (.int i) (.int j) H Q := ⟨i, j, rfl, rfl, hc, q⟩
theorem w_addI {i j : Int} (q : Q (.int (i + j)) H) : rAddG K (.int i) (.int j) H Q := .inl ⟨i, j, rfl, rfl, q⟩
theorem w_eqI {i j : Int} (q : Q (.bl (decide (i = j))) H) : rEqG K (.int i) (.int j) H Q := .inl ⟨rfl, by
  have e : decide (V.int i = V.int j) = decide (i = j) := by
    rw [dec_int]
    by_cases h : i = j
    · subst h; simp
    · rw [decide_eq_false h]; exact beq_eq_false_iff_ne.mpr h
  rw [e]; exact q⟩
theorem w_neI {i j : Int} (q : Q (.bl (!decide (i = j))) H) : rNeG K (.int i) (.int j) H Q := .inl ⟨rfl, by
  have e : decide (V.int i = V.int j) = decide (i = j) := by
    rw [dec_int]
    by_cases h : i = j
    · subst h; simp
    · rw [decide_eq_false h]; exact beq_eq_false_iff_ne.mpr h
  rw [e]; exact q⟩
theorem w_eqS (hs : scal x y = true) (q : Q (.bl (decide (x = y))) H) : rEqG K x y H Q := .inl ⟨hs, q⟩
theorem w_eqD {d e : PyData} (hd : Dp K H x d) (he : Dp K H y e) (sd : SeqAt.shaped d = true) (se : SeqAt.shaped e = true) (q : Q (.bl (PyData.eqv d e)) H) : rEqG K x y H Q := .inr ⟨d, e, hd, he, sd, se, q⟩
theorem w_neD {d e : PyData} (hd : Dp K H x d) (he : Dp K H y e) (sd : SeqAt.shaped d = true) (se : SeqAt.shaped e = true) (q : Q (.bl (!PyData.eqv d e)) H) : rNeG K x y H Q := .inr ⟨d, e, hd, he, sd, se, q⟩
theorem w_isN (q : Q (.bl (decide (x = .non))) H) : rIsN x .non H Q := ⟨rfl, q⟩
theorem w_isNn (q : Q (.bl true) H) : rIsN .non .non H Q := ⟨rfl, q⟩
theorem w_isNi {i : Int} (q : Q (.bl false) H) : rIsN (.int i) .non H Q := ⟨rfl, q⟩
theorem w_isNb {b : Bool} (q : Q (.bl false) H) : rIsN (.bl b) .non H Q := ⟨rfl, q⟩
theorem w_isNs {z : Str} (q : Q (.bl false) H) : rIsN (.str z) .non H Q := ⟨rfl, q⟩
theorem w_isNr {a : Addr} (q : Q (.bl false) H) : rIsN (.ref a) .non H Q := ⟨rfl, q⟩
theorem w_notNn (q : Q (.bl false) H) : rNotN .non .non H Q := ⟨rfl, q⟩
theorem w_notNi {i : Int} (q : Q (.bl true) H) : rNotN (.int i) .non H Q := ⟨rfl, q⟩
theorem w_notNb {b : Bool} (q : Q (.bl true) H) : rNotN (.bl b) .non H Q := ⟨rfl, q⟩
theorem w_notNs {z : Str} (q : Q (.bl true) H) : rNotN (.str z) .non H Q := ⟨rfl, q⟩
theorem w_notNr {a : Addr} (q : Q (.bl true) H) : rNotN (.ref a) .non H Q := ⟨rfl, q⟩
theorem w_notN (q : Q (.bl (!decide (x = .non))) H) : rNotN x .non H Q := ⟨rfl, q⟩
theorem w_cb {r : List V → Hp → VK → Prop} {ta : TA} (q : ta σ H fun vs H1 => r vs H1 Q) : tCB r ta σ H Q := q
theorem w_aNil (q : QA [] H) : tNil σ H QA := q
theorem w_aCons {tr : TA} (q : ta σ H fun x H1 => tr σ H1 fun xs H2 => QA (x :: xs) H2) : tCons ta tr σ H QA := q
theorem w_int1 {i : Int} (q : Q (.int i) H) : rInt1 [.int i] H Q := .inl ⟨i, rfl, q⟩
theorem w_int1b {k : Bool} (q : Q (.int (if k then 1 else 0)) H) : rInt1 [.bl k] H Q := .inr ⟨k, rfl, q⟩
theorem w_abs {i : Int} (q : Q (.int (if i < 0 then -i else i)) H) : rAbs [.int i] H Q := ⟨i, rfl, q⟩
theorem w_max2 {i j : Int} (q : Q (.int (if j > i then j else i)) H) : rMax2 [.int i, .int j] H Q := ⟨i, j, rfl, q⟩
theorem w_min2 {i j : Int} (q : Q (.int (if j < i then j else i)) H) : rMin2 [.int i, .int j] H Q := ⟨i, j, rfl, q⟩
theorem w_lenS {p : Addr} {ys : List V} {b : Bool} (h : Sq b K H p ys) (q : Q (.int ys.length) H) : rLenS K [.ref p] H Q := ⟨p, ys, rfl, h.or, q⟩
theorem w_lenI {p : Addr} {ns : List Int} {b : Bool} (h : Sq b K H p (ns.map V.int)) (q : Q (.int ns.length) H) : rLenS K [.ref p] H Q := ⟨p, _, rfl, h.or, by rw [List.length_map]; exact q⟩
theorem w_sumI {p : Addr} {ns : List Int} {b : Bool} (h : Sq b K H p (ns.map V.int)) (q : Q (.int ns.sum) H) : rSumS K [.ref p] H Q := ⟨p, ns, rfl, h.or, q⟩
theorem w_listS {p : Addr} {ys : List V} {b : Bool} (h : Sq b K H p ys) (q : ∀ l, H l = none → Q (.ref l) (upd H l (.lst ys))) : rListS K [.ref p] H Q := ⟨p, ys, rfl, h.or, q⟩
theorem w_tupL {p : Addr} {ys : List V} (h : Sq true K H p ys) (q : ∀ l, H l = none → Q (.ref l) (upd H l (.tup ys))) : rTupS K [.ref p] H Q := ⟨p, ys, rfl, .inl ⟨h, q⟩⟩
theorem w_tupT {p : Addr} {ys : List V} (h : Sq false K H p ys) (q : Q (.ref p) H) : rTupS K [.ref p] H Q := ⟨p, ys, rfl, .inr ⟨h, q⟩⟩
theorem w_ix {b : Bool} {p : Addr} {xs : List V} {i : Int} (h : Sq b K H p xs) (ha : atI xs i = some v) (q : Q v H) : rIx K (.ref p) (.int i) H Q := by
  rcases h.or with h | h
  · exact .inl ⟨p, xs, i, v, rfl, rfl, h, ha, q⟩
  · exact .inr (.inl ⟨p, xs, i, v, rfl, rfl, h, ha, q⟩)
theorem w_ixI {b : Bool} {p : Addr} {ns : List Int} {i : Int} (h : Sq b K H p (ns.map V.int)) (h0 : 0 ≤ i) (h1 : i < ns.length) (q : Q (.int (nth ns i)) H) : rIx K (.ref p) (.int i) H Q := w_ix h (nth_at h0 h1) q
theorem w_tupD {ta : TA} (q : ta σ H fun xs H1 => xs.length ≤ sizeLine ∧ ∀ p, H1 p = none → Q (.ref p) (upd H1 p (.tup xs))) : tTup ta σ H Q := q
theorem w_lstD {ta : TA} (q : ta σ H fun xs H1 => xs.length ≤ sizeLine ∧ ∀ p, H1 p = none → Q (.ref p) (upd H1 p (.lst xs))) : tLst ta σ H Q := q
theorem w_call {sp : Sp} {dvs : List V} {E : XK} {ta : TA} (q : ta σ H fun vs H1 => sp (vs ++ dvs) H1 Q E) : tCall sp dvs E ta σ H Q := q
theorem w_andV (q : ta σ H fun x H1 => ∃ c, x = .bl c ∧ if c = true then tb σ H1 Q else Q (.bl false) H1) : tAndV ta tb σ H Q := q
theorem w_orV (q : ta σ H fun x H1 => ∃ c, x = .bl c ∧ if c = true then Q (.bl true) H1 else tb σ H1 Q) : tOrV ta tb σ H Q := q
theorem w_notV (q : ta σ H fun x H1 => ∃ c, x = .bl c ∧ Q (.bl (!c)) H1) : tNotV ta σ H Q := q
-- methods of lists
theorem w_bm {T : String} {r : V → List V → Hp → VK → Prop} {to : TE} {ta : TA} (q : to σ H fun x H1 => tyV K T x H1 ∧ ta σ H1 fun xs H2 => r x xs H2 Q) : tBM K T r to ta σ H Q := q
theorem w_append {l : Addr} {xs : List V} (h : H l = some (.lst xs)) (hz : xs.length < sizeLine) (q : Q .non (upd H l (.lst (xs ++ [y])))) : rAppend (.ref l) [y] H Q := ⟨l, xs, y, rfl, rfl, h, hz, q⟩
theorem w_tyL {l : Addr} {xs : List V} {B : Prop} (h : Sq true K H l xs) (q : B) : tyV K "list" (.ref l) H ∧ B := ⟨.inl ⟨rfl, _, h⟩, q⟩
-- tests
theorem w_test (q : ta σ H fun x H' => ∃ k, x = .bl k ∧ QB k H') : tTest ta σ H QB := q
theorem w_tB (q : ta σ H fun x H' => ∃ k, x = .bl k ∧ QB k H') : tB ta σ H QB := q
theorem w_tru (q : ta σ H fun x H' => ∃ k, TruV K x H' k ∧ QB k H') : tTru K ta σ H QB := q
theorem w_exb {b : Bool} {F : Bool → Prop} (q : F b) : ∃ k, V.bl b = .bl k ∧ F k := ⟨b, rfl, q⟩
theorem w_truB {b : Bool} {F : Bool → Prop} (q : F b) : ∃ k, TruV K (.bl b) H k ∧ F k := ⟨b, rfl, q⟩
theorem w_truI {i : Int} {F : Bool → Prop} (q : F (i != 0)) : ∃ k, TruV K (.int i) H k ∧ F k := ⟨_, rfl, q⟩
theorem w_not (q : c σ H fun b H1 => QB (!b) H1) : tNot c σ H QB := q
theorem w_and (q : c σ H fun b H1 => if b = true then d σ H1 QB else QB false H1) : tAnd c d σ H QB := q
theorem w_or (q : c σ H fun b H1 => if b = true then QB true H1 else d σ H1 QB) : tOr c d σ H QB := q
theorem w_ifE (q : c σ H fun b H1 => if b = true then ta σ H1 Q else tb σ H1 Q) : tIf c ta tb σ H Q := q
theorem w_iteD {p A B : Prop} {_ : Decidable p} (h1 : p → A) (h2 : ¬ p → B) : if decide p = true then A else B := by
  by_cases h : p
  · rw [if_pos (decide_eq_true h)]; exact h1 h
  · rw [if_neg (by simp [h])]; exact h2 h
theorem w_iteN {p A B : Prop} {_ : Decidable p} (h1 : ¬ p → A) (h2 : p → B) : if (!decide p) = true then A else B := by
  by_cases h : p
  · rw [if_neg (by simp [h])]; exact h2 h
  · rw [if_pos (by simp [h])]; exact h1 h
theorem w_iteNT {A B : Prop} (h : B) : if (!true) = true then A else B := h
theorem w_iteNF {A B : Prop} (h : A) : if (!false) = true then A else B := h
theorem w_iteB {b : Bool} {A B : Prop} (h1 : b = true → A) (h2 : b = false → B) : if b = true then A else B := by
  cases b
  · exact h2 rfl
  · exact h1 rfl
-- statements
variable {f b' c' : St → Hp → Prop} {rt : VK}
theorem w_seq (q : t ⟨u ⟨f, rt, b', c'⟩, rt, b', c'⟩ σ H) : tSeq t u ⟨f, rt, b', c'⟩ σ H := q
theorem w_asg {g : TG} (q : te σ H fun x H1 => g x σ H1 f) : tAsg te g ⟨f, rt, b', c'⟩ σ H := q
theorem w_gName {i : Nat} {N : St → Hp → Prop} (q : N (σ.set i (some v)) H) : gName i v σ H N := q
theorem w_drop (q : te σ H fun _ H1 => f σ H1) : tDrop te ⟨f, rt, b', c'⟩ σ H := q
theorem w_ret (q : te σ H rt) : tRet te ⟨f, rt, b', c'⟩ σ H := q
theorem w_retN (q : rt .non H) : tRetN ⟨f, rt, b', c'⟩ σ H := q
theorem w_ifS (q : c σ H fun b H1 => if b = true then t D σ H1 else u D σ H1) : tIfS c t u D σ H := q
theorem w_next (q : f σ H) : tNext ⟨f, rt, b', c'⟩ σ H := q
theorem w_brk (q : b' σ H) : tBreak ⟨f, rt, b', c'⟩ σ H := q
theorem w_cont (q : c' σ H) : tCont ⟨f, rt, b', c'⟩ σ H := q
theorem w_nx {f b c : St → Hp → Prop} {r : VK} (q : f σ H) : Ends.nx ⟨f, r, b, c⟩ σ H := q
theorem w_rt {f b c : St → Hp → Prop} {r : VK} (q : r v H) : Ends.rt ⟨f, r, b, c⟩ v H := q
theorem w_bk {f b c : St → Hp → Prop} {r : VK} (q : b σ H) : Ends.bk ⟨f, r, b, c⟩ σ H := q
theorem w_ct {f b c : St → Hp → Prop} {r : VK} (q : c σ H) : Ends.ct ⟨f, r, b, c⟩ σ H := q
theorem w_augI {i : Nat} {g : Int → Int → Int} {z : Int} (hx : σ[i]? = some (some (.int z))) (q : te σ H fun y H1 => ipI g (.int z) y H1 fun z H2 => f (σ.set i (some z)) H2) : tAug i te (ipI g) ⟨f, rt, b', c'⟩ σ H := ⟨_, hx, q⟩
theorem w_ipI {f : Int → Int → Int} {i j : Int} (q : Q (.int (f i j)) H) : ipI f (.int i) (.int j) H Q := ⟨i, j, rfl, rfl, q⟩
-- slices
theorem w_sl {r : V → Option Int → Option Int → Hp → VK → Prop} {tl th : TO} (q : te σ H fun x H1 => tl σ H1 fun l H2 => th σ H2 fun u H3 => r x l u H3 Q) : tSl r te tl th σ H Q := q
theorem w_noPart {QO : Option Int → Hp → Prop} (q : QO none H) : tNoPart σ H QO := q
theorem w_part {QO : Option Int → Hp → Prop} (q : te σ H fun x H1 => ∃ i, x = .int i ∧ QO (some i) H1) : tPart te σ H QO := q
theorem w_exi {i : Int} {F : Int → Prop} (q : F i) : ∃ k, V.int i = .int k ∧ F k := ⟨i, rfl, q⟩
theorem w_slL {a : Addr} {xs : List V} {lo hi : Option Int} (h : Sq true K H a xs) (q : ∀ p, H p = none → Q (.ref p) (upd H p (.lst (cutV xs lo hi)))) : rSlG K (.ref a) lo hi H Q := .inl ⟨a, xs, rfl, h, q⟩
-- loops
end
/-- what a for asks of its walk J -/
def LoopOk (J : It) (g : TG) (tb : TS) (D : Ends) (σ : St) (H : Hp) : Prop := ∃ W : Nat → Nat → St → Hp → Prop, (∃ m, W 0 m σ H) ∧ ∀ i m σ H, W i m σ H →
  (J.stop i H ∧ D.nx σ H) ∨ (J.go i H ∧ ∃ N : St → Hp → Prop, (∀ σ' H', N σ' H' → ∃ m', m' < m ∧ W (i + 1) m' σ' H') ∧ ∀ x H', J.yld i H x H' → g x σ H' fun σ2 H2 => tb { D with nx := N, ct := N, bk := D.nx } σ2 H2)
section
variable {K : PySem.W.Frag} {σ σ' : St} {H : Hp} {t : TS} {D : Ends} {g : TG} {f b' c' : St → Hp → Prop} {rt : VK}
theorem w_for {wi : TI} (q : wi σ H fun J H1 => LoopOk J g t D σ H1) : tFor wi g t D σ H := q
theorem w_iRng1 {ta : TA} {R : It → Hp → Prop} (q : ta σ H fun vs H1 => ∃ j : Int, vs = [.int j] ∧ -(2 ^ 62) ≤ j ∧ j < 2 ^ 62 ∧ R (Itr 0 j.toNat) H1) : iRng1 ta σ H R := q
theorem w_iRng2 {ta : TA} {R : It → Hp → Prop} (q : ta σ H fun vs H1 => ∃ i j : Int, vs = [.int i, .int j] ∧ (-(2 ^ 62) ≤ i ∧ i < 2 ^ 62 ∧ -(2 ^ 62) ≤ j ∧ j < 2 ^ 62) ∧ R (Itr i (j - i).toNat) H1) : iRng2 ta σ H R := q
theorem l_it {J : It} {n : Nat} {G : Hp → Prop} {Y : Nat → Hp → V → Hp → Prop} (w : Walk J n G Y) (Pv : Nat → St → Hp → Prop) (h0 : Pv 0 σ H) (hG : ∀ i σ H, i ≤ n → Pv i σ H → G H)
    (hs : ∀ i x σ H H', i < n → Pv i σ H → Y i H x H' → g x σ H' fun σ2 H2 => t ⟨Pv (i + 1), rt, f, Pv (i + 1)⟩ σ2 H2) (hd : ∀ σ H, Pv n σ H → f σ H) : LoopOk J g t ⟨f, rt, b', c'⟩ σ H := for_it w Pv h0 hG hs hd
/-- for k in range(n) -/
theorem l_range {n : Int} {k : Nat} (Pv : Nat → St → Hp → Prop) (h1 : -(2 ^ 62) ≤ n) (h2 : n < 2 ^ 62) (h0 : Pv 0 σ H)
    (hs : ∀ (i : Nat) σ' H', (i : Int) < n → Pv i σ' H' → t ⟨Pv (i + 1), rt, f, Pv (i + 1)⟩ (σ'.set k (some (.int (i : Int)))) H') (hd : ∀ σ' H', Pv n.toNat σ' H' → f σ' H') :
    ∃ j : Int, [V.int n] = [.int j] ∧ -(2 ^ 62) ≤ j ∧ j < 2 ^ 62 ∧ LoopOk (Itr 0 j.toNat) (gName k) t ⟨f, rt, b', c'⟩ σ H := by
  refine ⟨n, rfl, h1, h2, l_it walk_range Pv h0 (fun _ _ _ _ _ => trivial) (fun i x σ' H1 H2 hi hp hy => ?_) hd⟩
  obtain ⟨e, ex⟩ := hy
  subst e ex
  show gName k (V.int (0 + (i : Int))) σ' _ _
  rw [Int.zero_add]
  exact hs i σ' _ (by omega) hp
theorem l_range2 {lo n : Int} {k : Nat} (Pv : Nat → St → Hp → Prop) (h1 : -(2 ^ 62) ≤ lo ∧ lo < 2 ^ 62 ∧ -(2 ^ 62) ≤ n ∧ n < 2 ^ 62) (h0 : Pv 0 σ H)
    (hs : ∀ (i : Nat) σ' H', lo + (i : Int) < n → Pv i σ' H' → t ⟨Pv (i + 1), rt, f, Pv (i + 1)⟩ (σ'.set k (some (.int (lo + (i : Int))))) H') (hd : ∀ σ' H', Pv (n - lo).toNat σ' H' → f σ' H') :
    ∃ i j : Int, [V.int lo, V.int n] = [.int i, .int j] ∧ (-(2 ^ 62) ≤ i ∧ i < 2 ^ 62 ∧ -(2 ^ 62) ≤ j ∧ j < 2 ^ 62) ∧ LoopOk (Itr i (j - i).toNat) (gName k) t ⟨f, rt, b', c'⟩ σ H := by
  refine ⟨lo, n, rfl, h1, l_it walk_range Pv h0 (fun _ _ _ _ _ => trivial) (fun i x σ' H1 H2 hi hp hy => ?_) hd⟩
  obtain ⟨e, ex⟩ := hy
  subst e ex
  exact hs i σ' _ (by omega) hp
end

/-! ### for x in (a list or a tuple), enumerate of either: what is walked is reckoned first -/
def iSeq (K : PySem.W.Frag) (tl : TE) : TI := fun σ H R => tl σ H fun x H1 => ∃ a, x = .ref a ∧ ((∃ xs, SqL K H1 a xs) ∧ R (Itl K a) H1 ∨ (∃ xs, SqT K H1 a xs) ∧ R (Itt K a) H1)
section
variable {X : Cx}
theorem pi_seqS {tg l : Expr} {tl : TE} (hl : PE X l tl) : PI X tg l (iSeq X.K tl) := by
  refine ⟨fun pins s σ H R I h => ?_⟩
  refine thn (hl.run pins s σ H _ I h) fun v s1 ⟨x, H1, I1, r1, q1⟩ => ?_
  obtain ⟨a, e, q1⟩ := q1
  subst e
  cases r1
  rcases q1 with ⟨⟨xs, hq⟩, q⟩ | ⟨⟨xs, hq⟩, q⟩
  · obtain ⟨its, rv, p, hz⟩ := I1.list hq
    refine wpAny_pyIter_list p.isList ?_
    refine ⟨s1.heap.objs.size, [s1.heap.objs.size], _, _, H1, rfl, I1.kept (t' := s1.toks) fun b o e => Heap.get?_push_of_some _ e, turn_list a _, ⟨_, Heap.get?_push_size _ rfl, rfl, rfl⟩, fun b hb => ?_, q⟩
    have e : b = s1.heap.objs.size := by simpa using hb
    subst e
    exact I1.fpOk (Nat.le_refl _) (I1.hok.fresh (Nat.le_refl _))
  · obtain ⟨its, rv, p, hz⟩ := I1.tuple hq
    refine wpAny_pyIter_tuple (show s1.heap.IsTuple a its.toArray from p) ?_
    refine ⟨s1.heap.objs.size, [s1.heap.objs.size], _, _, H1, rfl, I1.kept (t' := s1.toks) fun b o e => Heap.get?_push_of_some _ e, turn_tuple a _, ⟨_, Heap.get?_push_size _ rfl, rfl, rfl⟩, fun b hb => ?_, q⟩
    have e : b = s1.heap.objs.size := by simpa using hb
    subst e
    exact I1.fpOk (Nat.le_refl _) (I1.hok.fresh (Nat.le_refl _))
def iEnumS (K : PySem.W.Frag) (ta : TA) : TI := fun σ H R => ta σ H fun vs H1 => ∃ a, vs = [.ref a] ∧ ((∃ xs, SqL K H1 a xs) ∧ R (Ite K a) H1 ∨ (∃ xs, SqT K H1 a xs) ∧ R (IteT K a) H1)
theorem pi_enumS {e : Expr} {ta : TA} {p pos tpos : Pos} {elts : List Expr} {kk : Nat} (hg : Gl X "enumerate") (hm : X.mg "enumerate" = none) (ha : PA X [e] ta) (hs : starEach [e] X.env = [(false, eval e X.env)] := by rfl) :
    PI X (.Tuple elts kk tpos) (.Call (.Name "enumerate" p) [e] [] pos) (iEnumS X.K ta) := by
  refine ⟨fun pins s σ H R I h => ?_⟩
  refine Call_ (ld_blt I hg hm boot_enumerate (PyProof.Rows.callWith_type1 (thn (ha.run pos pins s σ H _ I h) fun us s1 ⟨vs, H1, I1, r1, q1⟩ => ?_) hs rfl))
  obtain ⟨a, ex, q1⟩ := q1
  subst ex
  cases r1 with
  | cons r rr =>
    cases rr
    cases r
    have fp : ∀ b ∈ [s1.heap.objs.size + 1, s1.heap.objs.size], FpOk X pins H1 b := fun b hb => by
      have e' : b = s1.heap.objs.size + 1 ∨ b = s1.heap.objs.size := by simpa using hb
      have hle : s1.heap.objs.size ≤ b := by
        rcases e' with z | z
        · rw [z]; exact Nat.le_add_right _ _
        · rw [z]; exact Nat.le_refl _
      exact I1.fpOk hle (I1.hok.fresh hle)
    rcases q1 with ⟨⟨xs, hq⟩, q⟩ | ⟨⟨xs, hq⟩, q⟩
    · obtain ⟨its, rv, p', hz⟩ := I1.list hq
      refine call_enumerate_list p'.isList fun h' he hit hsz hk => wpAny_pyIter_enum he ?_
      have I2 : Inv X pins σ H1 { s1 with heap := h' } := I1.kept (t' := s1.toks) hk
      exact ⟨s1.heap.objs.size + 1, [s1.heap.objs.size + 1, s1.heap.objs.size], _, _, H1, rfl, I2, turn_enum a (s1.heap.objs.size + 1) s1.heap.objs.size, ⟨⟨.none, he⟩, hit, Nat.succ_ne_self _⟩, fp, q⟩
    · obtain ⟨its, rv, p', hz⟩ := I1.tuple hq
      refine call_enumerate_tup p' fun h' he hit hsz hk => wpAny_pyIter_enum he ?_
      have I2 : Inv X pins σ H1 { s1 with heap := h' } := I1.kept (t' := s1.toks) hk
      exact ⟨s1.heap.objs.size + 1, [s1.heap.objs.size + 1, s1.heap.objs.size], _, _, H1, rfl, I2, turn_enumT a (s1.heap.objs.size + 1) s1.heap.objs.size, ⟨⟨.none, he⟩, hit, Nat.succ_ne_self _⟩, fp, q⟩
end
section
variable {K : PySem.W.Frag} {σ : St} {H : Hp} {t : TS} {D : Ends} {g : TG} {f b' c' : St → Hp → Prop} {rt : VK}
theorem w_iSeq {tl : TE} {R : It → Hp → Prop} (q : tl σ H fun x H1 => ∃ a, x = .ref a ∧ ((∃ xs, SqL K H1 a xs) ∧ R (Itl K a) H1 ∨ (∃ xs, SqT K H1 a xs) ∧ R (Itt K a) H1)) : iSeq K tl σ H R := q
theorem w_iEnumS {ta : TA} {R : It → Hp → Prop} (q : ta σ H fun vs H1 => ∃ a, vs = [.ref a] ∧ ((∃ xs, SqL K H1 a xs) ∧ R (Ite K a) H1 ∨ (∃ xs, SqT K H1 a xs) ∧ R (IteT K a) H1)) : iEnumS K ta σ H R := q
theorem l_seq {b : Bool} {a : Addr} (xs : List V) (Pv : Nat → St → Hp → Prop) (h : Sq b K H a xs) (h0 : Pv 0 σ H) (hG : ∀ i σ H, i ≤ xs.length → Pv i σ H → Sq b K H a xs)
    (hs : ∀ (i : Nat) x σ' H', i < xs.length → xs[i]? = some x → Pv i σ' H' → g x σ' H' fun σ2 H2 => t ⟨Pv (i + 1), rt, f, Pv (i + 1)⟩ σ2 H2) (hd : ∀ σ' H', Pv xs.length σ' H' → f σ' H') :
    ∃ a', V.ref a = .ref a' ∧ ((∃ xs, SqL K H a' xs) ∧ LoopOk (Itl K a') g t ⟨f, rt, b', c'⟩ σ H ∨ (∃ xs, SqT K H a' xs) ∧ LoopOk (Itt K a') g t ⟨f, rt, b', c'⟩ σ H) := by
  refine ⟨a, rfl, ?_⟩
  cases b with
  | true =>
    refine .inl ⟨⟨xs, h⟩, l_it (walk_list (xs := xs)) Pv h0 hG (fun i x σ' H1 H2 hi hp hy => ?_) hd⟩
    obtain ⟨e, ex⟩ := hy
    subst e
    exact hs i x σ' _ hi ex hp
  | false =>
    refine .inr ⟨⟨xs, h⟩, l_it (walk_tup (xs := xs)) Pv h0 hG (fun i x σ' H1 H2 hi hp hy => ?_) hd⟩
    obtain ⟨e, ex⟩ := hy
    subst e
    exact hs i x σ' _ hi ex hp
theorem l_enum {b : Bool} {a : Addr} (xs : List V) (Pv : Nat → St → Hp → Prop) (h : Sq b K H a xs) (h0 : Pv 0 σ H) (hG : ∀ i σ H, i ≤ xs.length → Pv i σ H → Sq b K H a xs)
    (hs : ∀ (i : Nat) x (T : Addr) σ' H', i < xs.length → xs[i]? = some x → Pv i σ' H' → H' T = none → g (.ref T) σ' (upd H' T (.tup [.int (i : Int), x])) fun σ2 H2 => t ⟨Pv (i + 1), rt, f, Pv (i + 1)⟩ σ2 H2) (hd : ∀ σ' H', Pv xs.length σ' H' → f σ' H') :
    ∃ a', [V.ref a] = [.ref a'] ∧ ((∃ xs, SqL K H a' xs) ∧ LoopOk (Ite K a') g t ⟨f, rt, b', c'⟩ σ H ∨ (∃ xs, SqT K H a' xs) ∧ LoopOk (IteT K a') g t ⟨f, rt, b', c'⟩ σ H) := by
  refine ⟨a, rfl, ?_⟩
  cases b with
  | true =>
    refine .inl ⟨⟨xs, h⟩, l_it (walk_enum (xs := xs)) Pv h0 hG (fun i x σ' H1 H2 hi hp hy => ?_) hd⟩
    obtain ⟨T, u, v, rfl, hT, e, hu, hv⟩ := hy
    cases hu
    subst e
    exact hs i v T σ' _ hi hv hp hT
  | false =>
    refine .inr ⟨⟨xs, h⟩, l_it (walk_enumT (xs := xs)) Pv h0 hG (fun i x σ' H1 H2 hi hp hy => ?_) hd⟩
    obtain ⟨T, u, v, rfl, hT, e, hu, hv⟩ := hy
    cases hu
    subst e
    exact hs i v T σ' _ hi hv hp hT
/-- a, b = (a new pair) -/
theorem w_pair {i j : Nat} {a : Addr} {x y : V} {N : St → Hp → Prop} (h : Sq false K H a [x, y]) (q : N ((σ.set i (some x)).set j (some y)) H) : gTup K 2 (gCons (gName i) (gCons (gName j) gNil)) (.ref a) σ H N :=
  ⟨a, [x, y], rfl, h, rfl, x, [y], rfl, y, [], rfl, rfl, q⟩
end
end L2

namespace L2
open PySem PySem.Spec PyProof.Rows
/-! ### stores into lists, cuts, isinstance, lists of numbers -/
section
variable {K : PySem.W.Frag} {σ : St} {H : Hp} {v x : V} {D : Ends} {t u : TS} {Q : VK} {ta tb : TE}
theorem w_gSub {r : TSet} {N : St → Hp → Prop} (q : ta σ H fun o H1 => tb σ H1 fun i H2 => r o i v H2 fun H3 => N σ H3) : gSub ta tb r v σ H N := q
theorem w_setI {p : Addr} {ns : List Int} {k z : Int} {N : Hp → Prop} (h : H p = some (.lst (ns.map V.int))) (h0 : 0 ≤ k) (h1 : k < ns.length) (q : N (upd H p (.lst ((ns.set k.toNat z).map V.int)))) : rSetL (.ref p) (.int k) (.int z) H N := by
  refine ⟨p, ns.map V.int, k, k.toNat, rfl, rfl, h, ?_, ?_⟩
  · unfold ixN
    rw [if_pos h0, if_pos (by rw [List.length_map]; omega)]
  · rw [← List.map_set]; exact q
theorem w_setL {p : Addr} {xs : List V} {k : Int} {N : Hp → Prop} (h : H p = some (.lst xs)) (h0 : 0 ≤ k) (h1 : k < xs.length) (q : N (upd H p (.lst (xs.set k.toNat v)))) : rSetL (.ref p) (.int k) v H N := by
  refine ⟨p, xs, k, k.toNat, rfl, rfl, h, ?_, q⟩
  unfold ixN
  rw [if_pos h0, if_pos (by omega)]
theorem w_cut {f b' c' : St → Hp → Prop} {rt : VK} (Mid : St → Hp → Prop) (h1 : t ⟨Mid, rt, b', c'⟩ σ H) (h2 : ∀ σ' H', Mid σ' H' → u ⟨f, rt, b', c'⟩ σ' H') : Evl.tCut t u ⟨f, rt, b', c'⟩ σ H := ⟨Mid, h1, h2⟩
theorem w_isi {tn cn : String} {b : Bool} (ht : TyX K H x (.type tn)) (hk : kitB tn cn = some b) (q : Q (.bl b) H) : rIsi K [x, .ty cn] H Q := ⟨x, .ty cn, _, _, b, rfl, .ty cn, ht, kit_ty hk, q⟩
theorem tyx_tup {a : Addr} {xs : List V} (h : SqT K H a xs) : TyX K H (.ref a) (.type "tuple") := by
  rcases h with (h | ⟨o, h⟩) | ⟨o, its, n, h1, h2, _⟩
  · exact .base (.tup h)
  · exact .fTuple h
  · exact .kTuple h1 h2
theorem tyx_lst {a : Addr} {xs : List V} (h : SqL K H a xs) : TyX K H (.ref a) (.type "list") := by
  rcases h with (h | ⟨o, h⟩) | ⟨o, its, n, h1, h2, _⟩
  · exact .base (.lst h)
  · exact .base (.frz h)
  · exact .kList h1 h2
end
theorem last_at_neg {ns : List Int} (h : 0 < ns.length) : ∃ z, z ∈ ns ∧ atI (ns.map V.int) (-1) = some (.int z) := by
  refine ⟨ns[ns.length - 1], List.getElem_mem _, ?_⟩
  unfold atI ixN
  rw [if_neg (by decide), if_pos (by rw [List.length_map]; omega)]
  show (ns.map V.int)[(-1 + (((ns.map V.int).length : Nat) : Int)).toNat]? = _
  rw [List.length_map, show (-1 + ((ns.length : Nat) : Int)).toNat = ns.length - 1 by omega, List.getElem?_map, List.getElem?_eq_getElem (by omega)]
  rfl
theorem sum_nonneg : ∀ {ns : List Int}, (∀ x ∈ ns, (0 : Int) ≤ x) → 0 ≤ ns.sum
  | [], _ => by simp
  | a :: r, h => by
    have h1 := h a (List.mem_cons_self ..)
    have h2 := sum_nonneg (ns := r) fun x hx => h x (List.mem_cons_of_mem _ hx)
    rw [List.sum_cons]; omega
theorem sum_ge_mem : ∀ {ns : List Int} {z : Int}, (∀ x ∈ ns, (0 : Int) ≤ x) → z ∈ ns → z ≤ ns.sum
  | a :: r, z, h, hz => by
    have h1 := h a (List.mem_cons_self ..)
    have h2 := sum_nonneg (ns := r) fun x hx => h x (List.mem_cons_of_mem _ hx)
    rw [List.sum_cons]
    rcases List.mem_cons.mp hz with e | e
    · subst e; omega
    · have := sum_ge_mem (ns := r) (fun x hx => h x (List.mem_cons_of_mem _ hx)) e
      omega
/-- the same data by _law_same: no deeper than n -/
def Sm (K : PySem.W.Frag) (H : Hp) : Nat → V → V → Prop
  | 0, x, y => x = y ∧ (x = .non ∨ (∃ b, x = .bl b) ∨ (∃ i, x = .int i) ∨ ∃ s, x = .str s)
  | n + 1, x, y => (x = y ∧ (x = .non ∨ (∃ b, x = .bl b) ∨ (∃ i, x = .int i) ∨ ∃ s, x = .str s)) ∨
    ∃ (a a' : Addr) (k : Bool) (xs ys : List V), x = .ref a ∧ y = .ref a' ∧ SqT K H a xs ∧ Sq k K H a' ys ∧ xs.length = ys.length ∧ ys.length ≤ 100000 ∧ ∀ (i : Nat) x' y', xs[i]? = some x' → ys[i]? = some y' → Sm K H n x' y'
theorem Sm.int {K : PySem.W.Frag} {H : Hp} {n : Nat} {i : Int} : Sm K H n (.int i) (.int i) := by
  cases n
  · exact ⟨rfl, .inr (.inr (.inl ⟨i, rfl⟩))⟩
  · exact .inl ⟨rfl, .inr (.inr (.inl ⟨i, rfl⟩))⟩
theorem Same.sm {K : PySem.W.Frag} {H H' : Hp} (e : Same H H') : ∀ {n : Nat} {x y : V}, Sm K H n x y → Sm K H' n x y
  | 0, _, _, h => h
  | n + 1, _, _, h => by
    rcases h with h | ⟨a, a', k, xs, ys, h1, h2, h3, h4, h5, hz, h6⟩
    · exact .inl h
    · exact .inr ⟨a, a', k, xs, ys, h1, h2, e.seqT h3, e.sq h4, h5, hz, fun i x' y' hx hy => Same.sm e (h6 i x' y' hx hy)⟩
end L2

namespace L2
open PySem PySem.Spec PyProof.Rows
/-! ### lists of numbers: cut, compared, looked into -/
section
variable {K : PySem.W.Frag} {H : Hp} {Q : VK}
theorem cutV_to (ns : List Int) {j : Int} (hj : 0 ≤ j) : cutV (ns.map V.int) none (some j) = (ns.take j.toNat).map V.int := by
  have e : j = ((j.toNat : Nat) : Int) := (Int.toNat_of_nonneg hj).symm
  unfold cutV
  rw [HT.sIx_none, e, HT.sIx_nat, List.drop_zero, Nat.sub_zero, Int.toNat_natCast, List.map_take, List.length_map]
  rcases Nat.le_total j.toNat ns.length with h | h
  · rw [Nat.min_eq_left h]
  · rw [Nat.min_eq_right h, List.take_of_length_le (by rw [List.length_map]; exact Nat.le_refl _), List.take_of_length_le (by rw [List.length_map]; exact h)]
theorem w_slTo {a : Addr} {ns : List Int} {j : Int} (h : Sq true K H a (ns.map V.int)) (hj : 0 ≤ j) (q : ∀ p, H p = none → Q (.ref p) (upd H p (.lst ((ns.take j.toNat).map V.int)))) : rSlG K (.ref a) none (some j) H Q :=
  .inl ⟨a, ns.map V.int, rfl, h, fun p hp => by rw [cutV_to ns hj]; exact q p hp⟩
theorem dpAll_ints {ns : List Int} : DpAll K H (ns.map V.int) (ns.map PyData.int) := by
  induction ns with
  | nil => exact .nil
  | cons a r ih => exact .cons (.int a) ih
theorem dp_ints {b : Bool} {a : Addr} {ns : List Int} (h : Sq b K H a (ns.map V.int)) : Dp K H (.ref a) (if b then .list (ns.map PyData.int) else .tuple (ns.map PyData.int)) := by
  cases b
  · exact .tup h dpAll_ints
  · exact .lst h dpAll_ints
theorem canLay_ints (ns : List Int) : PyData.canLayAll0 (ns.map PyData.int) = true := by
  induction ns with
  | nil => rfl
  | cons a r ih => simp only [List.map_cons, PyData.canLayAll0, PyData.canLay0, ih, Bool.and_self]
theorem depth_ints (ns : List Int) : PyData.depthAll (ns.map PyData.int) = 0 := by
  induction ns with
  | nil => rfl
  | cons a r ih => simp only [List.map_cons, PyData.depthAll, PyData.depth, ih, Nat.max_self]
theorem shaped_ints (ns : List Int) : SeqAt.shaped (.list (ns.map PyData.int)) = true := by
  simp [SeqAt.shaped, PyData.canLay0, PyData.depth, canLay_ints, depth_ints]
theorem shaped_intsT (ns : List Int) : SeqAt.shaped (.tuple (ns.map PyData.int)) = true := by
  simp [SeqAt.shaped, PyData.canLay0, PyData.depth, canLay_ints, depth_ints]
theorem eqvAll_ints (ns : List Int) : PyData.eqvAll (ns.map PyData.int) (ns.map PyData.int) = true := by
  induction ns with
  | nil => rfl
  | cons a r ih => simp only [List.map_cons, PyData.eqvAll, PyData.eqv, ih, beq_self_eq_true, Bool.and_self]
theorem w_neInts {a a' : Addr} {ns : List Int} (h : Sq true K H a (ns.map V.int)) (h' : Sq true K H a' (ns.map V.int)) (q : Q (.bl false) H) : rNeG K (.ref a) (.ref a') H Q :=
  w_neD (dp_ints h) (dp_ints h') (shaped_ints ns) (shaped_ints ns) (by
    have e : PyData.eqv (.list (ns.map PyData.int)) (.list (ns.map PyData.int)) = true := by simp only [PyData.eqv, eqvAll_ints]
    show Q (.bl (!PyData.eqv (.list (ns.map PyData.int)) (.list (ns.map PyData.int)))) H
    rw [e]; exact q)
theorem flat_ints (ns : List Int) : (ns.map V.int).all flatV = true := by
  induction ns with
  | nil => rfl
  | cons a r ih => simp only [List.map_cons, List.all_cons, ih, Bool.and_true]; rfl
theorem eqV_int (i j : Int) : eqV (.int i) (.int j) = (i == j) := rfl
theorem w_maxI {a : Addr} {ns : List Int} (h : Sq true K H a (ns.map V.int)) (hp : 0 < ns.length) (q : ∀ m, m ∈ ns → (∀ y, y ∈ ns → y ≤ m) → Q (.int m) H) : rMax K [.ref a] H Q := ⟨a, ns, rfl, h, hp, q⟩
theorem w_indexI {a : Addr} {ns : List Int} {z : Int} {j : Nat} (h : Sq true K H a (ns.map V.int)) (hj : j < ns.length) (e : nth ns (j : Nat) = z) (hno : ∀ m : Nat, m < j → nth ns (m : Nat) ≠ z) (q : Q (.int (j : Nat)) H) : rIndex K (.ref a) [.int z] H Q := by
  have hg : ∀ (m : Nat), m < ns.length → (ns.map V.int)[m]? = some (.int (nth ns (m : Nat))) := fun m hm => by
    rw [List.getElem?_map, List.getElem?_eq_getElem hm, nth_nat, List.getD_eq_getElem?_getD, List.getElem?_eq_getElem hm]
    rfl
  refine ⟨a, ns.map V.int, .int z, j, .int z, rfl, rfl, h, rfl, flat_ints ns, by rw [hg j hj, e], by rw [eqV_int]; exact beq_self_eq_true z, fun m z' hm hz => ?_, q⟩
  rw [hg m (by omega)] at hz
  cases hz
  rw [eqV_int]
  exact beq_eq_false_iff_ne.mpr (hno m hm)
end
end L2

namespace L2
open PySem PySem.Spec PyProof.Rows
/-! ### zip of two, each a list (true) or a tuple (false) -/
def ItOf (b : Bool) (h : Heap) (it a : Addr) (i : Nat) : Prop := match b with
  | true => h.IsListIter it a i
  | false => h.IsTupleIter it a i
def SrcOf (b : Bool) (h : Heap) (a : Addr) (items : Array Value) : Prop := match b with
  | true => h.IsList a items
  | false => h.IsTuple a items
theorem ItOf.at {b : Bool} {h h' : Heap} {it a : Addr} {i : Nat} (x : ItOf b h it a i) (k : ∀ o, h.get? it = some o → h'.get? it = some o) : ItOf b h' it a i := by
  cases b with
  | true => exact Heap.IsListIter.at (show h.IsListIter it a i from x) k
  | false => exact Heap.IsTupleIter.at (show h.IsTupleIter it a i from x) k
theorem ItOf.obj {b : Bool} {h : Heap} {it a : Addr} {i : Nat} (x : ItOf b h it a i) : ∃ o, h.get? it = some o ∧ ∀ v, o.data ≠ .cell v := by
  cases b with
  | true => obtain ⟨o, e, _, d⟩ := (show h.IsListIter it a i from x); exact ⟨o, e, fun v q => by rw [d] at q; cases q⟩
  | false => obtain ⟨o, e, _, d⟩ := (show h.IsTupleIter it a i from x); exact ⟨o, e, fun v q => by rw [d] at q; cases q⟩
theorem SrcOf.ne {b : Bool} {h : Heap} {a it : Addr} {items : Array Value} {b' : Bool} {a' : Addr} {i : Nat} (p : SrcOf b h a items) (q : ItOf b' h it a' i) : a ≠ it := by
  intro e
  subst e
  have hp : ∃ o, h.get? a = some o ∧ (o.cls = .type "list" ∨ o.cls = .type "tuple") := by
    cases b with
    | true => obtain ⟨o, ho, hc, _⟩ := (show h.IsList a items from p); exact ⟨o, ho, .inl hc⟩
    | false => obtain ⟨o, ho, hc, _⟩ := (show h.IsTuple a items from p); exact ⟨o, ho, .inr hc⟩
  have hq : ∃ o, h.get? a = some o ∧ (o.cls = .type "list_iterator" ∨ o.cls = .type "tuple_iterator") := by
    cases b' with
    | true => obtain ⟨o, ho, hc, _⟩ := (show h.IsListIter a a' i from q); exact ⟨o, ho, .inl hc⟩
    | false => obtain ⟨o, ho, hc, _⟩ := (show h.IsTupleIter a a' i from q); exact ⟨o, ho, .inr hc⟩
  obtain ⟨o, ho, hc⟩ := hp
  obtain ⟨o', ho', hc'⟩ := hq
  rw [ho] at ho'
  cases ho'
  rcases hc with hc | hc <;> rcases hc' with hc' | hc' <;> (rw [hc] at hc'; exact absurd hc' (by decide))
theorem Inv.src {X : Cx} {pins : List (Addr × Obj)} {σ : St} {H : Hp} {s : Shared} {b : Bool} {a : Addr} {xs : List V} (I : Inv X pins σ H s) (h : Sq b X.K H a xs) : ∃ its : List Value, Vals xs its ∧ SrcOf b s.heap a its.toArray ∧ a < s.heap.objs.size := by
  cases b with
  | true =>
    obtain ⟨its, rv, p, _⟩ := I.list h
    exact ⟨its, rv, p.isList, p.lt⟩
  | false =>
    obtain ⟨its, rv, p, _⟩ := I.tuple h
    obtain ⟨o, ho, _⟩ := id p
    exact ⟨its, rv, p, Heap.lt_size ho⟩
theorem Inv.sq_inj {X : Cx} {pins : List (Addr × Obj)} {σ : St} {H : Hp} {s : Shared} {b : Bool} {a : Addr} {xs ys : List V} (I : Inv X pins σ H s) (h : Sq b X.K H a xs) (h' : Sq b X.K H a ys) : xs = ys := by
  cases b with
  | true => exact I.list_inj h h'
  | false => exact I.tuple_inj h h'
theorem drawsOf {prog : Program} {w : World} {A : Around} (b : Bool) (hh : A.handled = none) (it a : Addr) (hne : a ≠ it) (items : Array Value) :
    Draws prog w A it [it, a] items.size (fun i v => items[i]? = some v) (fun i h => ItOf b h it a i ∧ SrcOf b h a items) := by
  cases b with
  | true => exact Draws.list hh it a hne items
  | false => exact Draws.tuple hh it a hne items
def ItzS (b1 b2 : Bool) (K : PySem.W.Frag) (a b : Addr) : It :=
  ⟨fun i H => ∃ (xs ys : List V) (x y : V), Sq b1 K H a xs ∧ Sq b2 K H b ys ∧ xs[i]? = some x ∧ ys[i]? = some y,
    fun i H v H' => ∃ T x y, v = .ref T ∧ H T = none ∧ H' = upd H T (.tup [x, y]) ∧ (∀ xs, Sq b1 K H a xs → xs[i]? = some x) ∧ ∀ ys, Sq b2 K H b ys → ys[i]? = some y,
    fun i H => ∃ xs ys : List V, Sq b1 K H a xs ∧ Sq b2 K H b ys ∧ i ≤ xs.length ∧ i ≤ ys.length ∧ (xs.length ≤ i ∨ ys.length ≤ i)⟩
theorem turn_zipS {P : Program} {w : World} {K : PySem.W.Frag} {elts : List Expr} {kk : Nat} {tpos : Pos} (b1 b2 : Bool) {a b z TI TO i1 i2 : Addr} (D : ZipSep2 z TI TO i1 i2 [i1, a] [i2, b]) :
    Turn P w K (.Tuple elts kk tpos) (ItzS b1 b2 K a b) [z, TI, TO, i1, i2] z (fun i h => IsZip h z TI TO .none ∧ IsPair h TI (.ref i1) (.ref i2) ∧ (∃ x y, IsPair h TO x y) ∧ ItOf b1 h i1 a i ∧ ItOf b2 h i2 b i) where
  mem := by simp
  obj := fun i h st c hc => by
    obtain ⟨hz, hTI, ⟨x, y, hTO⟩, h1, h2⟩ := st
    have e' : c = z ∨ c = TI ∨ c = TO ∨ c = i1 ∨ c = i2 := by simpa using hc
    rcases e' with q | q | q | q | q
    · rw [q]; exact ⟨_, hz, fun v q => nomatch q⟩
    · rw [q]; exact ⟨_, hTI, fun v q => nomatch q⟩
    · rw [q]; exact ⟨_, hTO, fun v q => nomatch q⟩
    · rw [q]; exact h1.obj
    · rw [q]; exact h2.obj
  keep := fun i h h' st k => by
    obtain ⟨hz, hTI, ⟨x, y, hTO⟩, h1, h2⟩ := st
    exact ⟨k z (by simp) _ hz, k TI (by simp) _ hTI, ⟨x, y, k TO (by simp) _ hTO⟩, h1.at fun o q => k i1 (by simp) o q, h2.at fun o q => k i2 (by simp) o q⟩
  item := by
    intro X hP hw hK hc i pins s σ H E I hf st hg
    subst hP hw hK
    obtain ⟨hz, hTI, ⟨x0, y0, hTO⟩, h1, h2⟩ := st
    obtain ⟨xs, ys, x, y, hqx, hqy, hx, hy⟩ := hg
    obtain ⟨its, rv, p, la⟩ := I.src hqx
    obtain ⟨its2, rv2, p2, lb⟩ := I.src hqy
    obtain ⟨u, hu, ru⟩ := rv.get hx
    obtain ⟨u2, hu2, ru2⟩ := rv2.get hy
    have hzl : z < s.heap.objs.size := Heap.lt_size hz
    have hl1 : i < its.toArray.size := by simpa using (List.getElem?_eq_some_iff.mp hu).1
    have hl2 : i < its2.toArray.size := by simpa using (List.getElem?_eq_some_iff.mp hu2).1
    have hin : X.A.in1.handled = none := I.ok.hd hc
    refine wpAny_pyNext_zipD2_item D (drawsOf b1 hin i1 a (p.ne h1) its.toArray) (drawsOf b2 hin i2 b (p2.ne h2) its2.toArray) hz hTI hTO ⟨h1, p⟩ ⟨h2, p2⟩ hl1 hl2 fun w1 w2 h' tk e1 e2 z' TO' st1 st2 hT hsz hk => ?_
    have ew1 : w1 = u := by
      have g1 : its.toArray[i]? = some w1 := e1
      have g2 : its.toArray[i]? = some u := by simpa using hu
      rw [g1] at g2
      exact Option.some.inj g2
    have ew2 : w2 = u2 := by
      have g1 : its2.toArray[i]? = some w2 := e2
      have g2 : its2.toArray[i]? = some u2 := by simpa using hu2
      rw [g1] at g2
      exact Option.some.inj g2
    subst ew1 ew2
    refine ⟨_, rfl, wpAny_letOwnedTupleGo_zip (s := { s with heap := h', toks := tk }) z' fun h'' z'' sb => ?_⟩
    have hT2 : h''.get? s.heap.objs.size = some { cls := .type "tuple", data := .seq #[w1, w2] } := (sb.2 _ (Nat.ne_of_gt hzl)).trans hT
    have new : ObjOk X.prog X.w (upd H s.heap.objs.size (.tup [x, y])) h'' s.heap.objs.size (.tup [x, y]) :=
      ⟨by show 2 ≤ sizeLine; decide, [w1, w2], .cons ru (.cons ru2 .nil), ⟨_, hT2, rfl, _, rfl⟩⟩
    have I1 : Inv X pins σ (upd H s.heap.objs.size (.tup [x, y])) { s with heap := h'', toks := tk } :=
      I.turnedNew (t' := tk) (ch := [z, TI, TO, i1, i2]) (fun c o hb q => (sb.2 c (fun q' => hb (by simp [q']))).trans (hk c o (fun q' => hb (by simp [q'])) (fun q' => hb (by simp [q'])) (fun q' => hb (by simp [q'])) (fun q' => hb (by simp [q'])) q)) hf (Nat.le_refl _) new
    refine ⟨.ref s.heap.objs.size, _, I1, rfl, ⟨_, x, y, rfl, I.hok.fresh (Nat.le_refl _), rfl, fun l hl => by rw [I.sq_inj hl hqx]; exact hx, fun l hl => by rw [I.sq_inj hl hqy]; exact hy⟩, ⟨z'', ?_, ⟨w1, w2, ?_⟩, ?_, ?_⟩, fun c hcm => ?_⟩
    · exact (sb.2 _ D.TIz).trans (hk _ _ D.TIz D.TITO D.TIi1 D.TIi2 hTI)
    · exact (sb.2 _ D.TOz).trans TO'
    · exact st1.1.at fun o q => (sb.2 _ (Ne.symm D.zi1)).trans q
    · exact st2.1.at fun o q => (sb.2 _ (Ne.symm D.zi2)).trans q
    · have hlt : c < s.heap.objs.size := by
        have e' : c = z ∨ c = TI ∨ c = TO ∨ c = i1 ∨ c = i2 := by simpa using hcm
        rcases e' with q | q | q | q | q
        · rw [q]; exact hzl
        · rw [q]; exact Heap.lt_size hTI
        · rw [q]; exact Heap.lt_size hTO
        · rw [q]; obtain ⟨_, e1, _⟩ := h1.obj; exact Heap.lt_size e1
        · rw [q]; obtain ⟨_, e2, _⟩ := h2.obj; exact Heap.lt_size e2
      rw [upd_ne (Nat.ne_of_lt hlt)]
      exact (hf c hcm).1
  done := by
    intro X hP hw hK hc i pins s σ H E I hf st hg
    subst hP hw hK
    obtain ⟨hz, hTI, ⟨x0, y0, hTO⟩, h1, h2⟩ := st
    obtain ⟨xs, ys, hqx, hqy, le1, le2, hend⟩ := hg
    obtain ⟨its, rv, p, _⟩ := I.src hqx
    obtain ⟨its2, rv2, p2, _⟩ := I.src hqy
    have l1 := rv.length
    have l2 := rv2.length
    have hin : X.A.in1.handled = none := I.ok.hd hc
    refine wpAny_pyNext_zipD2_end D (drawsOf b1 hin i1 a (p.ne h1) its.toArray) (drawsOf b2 hin i2 b (p2.ne h2) its2.toArray) hz hTI hTO ⟨h1, p⟩ ⟨h2, p2⟩ (by simp; omega) (by simp; omega) (by simp; omega) fun h' tk hk => ⟨rfl, ?_⟩
    exact I.turnedL (t' := tk) (ch := [z, TI, TO, i1, i2]) (fun c o hb q => hk c o (fun q' => hb (by simp [q'])) (fun q' => hb (by simp [q'])) (fun q' => hb (by simp [q'])) (fun q' => hb (by simp [q'])) q) hf
  self := fun A i s Q E st h => wpAny_pyIter_zip st.1 h
theorem begins_src (b : Bool) (a : Addr) (items : Array Value) : ∃ o, Begins (.ref a) o (fun h => SrcOf b h a items) ∧ ∀ (h : Heap) (it : Addr), h.get? it = some o → ItOf b h it a 0 := by
  cases b with
  | true => exact ⟨_, begins_list a items, fun h it e => ⟨_, e, rfl, rfl⟩⟩
  | false => exact ⟨_, begins_tuple a items, fun h it e => ⟨_, e, rfl, rfl⟩⟩
def iZipS (K : PySem.W.Frag) (ta : TA) : TI := fun σ H R => ta σ H fun vs H1 => ∃ a b, vs = [.ref a, .ref b] ∧ ∃ b1 b2 xs ys, Sq b1 K H1 a xs ∧ Sq b2 K H1 b ys ∧ R (ItzS b1 b2 K a b) H1
theorem pi_zipS {X : Cx} {e e2 : Expr} {ta : TA} {p pos tpos : Pos} {elts : List Expr} {kk : Nat} (hg : Gl X "zip") (hm : X.mg "zip" = none) (ha : PA X [e, e2] ta)
    (hs : starEach [e, e2] X.env = (false, eval e X.env) :: starEach [e2] X.env := by rfl) (hpl : (backTo pos (starEach [e2] X.env)).any (·.1) = false := by rfl) :
    PI X (.Tuple elts kk tpos) (.Call (.Name "zip" p) [e, e2] [] pos) (iZipS X.K ta) := by
  refine ⟨fun pins s σ H R I h => ?_⟩
  refine Call_ (ld_blt I hg hm PyProof.Rows.boot_zip (PyProof.Rows.callWith_type1 (thn (ha.run pos pins s σ H _ I h) fun us s1 ⟨vs, H1, I1, r1, q1⟩ => ?_) hs hpl))
  obtain ⟨a, b, ex, b1, b2, xs, ys, hqx, hqy, q⟩ := q1
  subst ex
  cases r1 with
  | cons r rr =>
    cases rr with
    | cons r' rr =>
      cases rr
      cases r
      cases r'
      obtain ⟨its, rv, p1, la⟩ := I1.src hqx
      obtain ⟨its2, rv2, p2, lb⟩ := I1.src hqy
      obtain ⟨o1, B1, k1⟩ := begins_src b1 a its.toArray
      obtain ⟨o2, B2, k2⟩ := begins_src b2 b its2.toArray
      refine zip_begins2 B1 B2 p1 p2 fun h' hz hTI hTO g1 g2 hsz hk => wpAny_pyIter_zip hz ?_
      have I2 : Inv X pins σ H1 { s1 with heap := h' } := I1.kept (t' := s1.toks) hk
      refine ⟨s1.heap.objs.size + 4, [s1.heap.objs.size + 4, s1.heap.objs.size + 2, s1.heap.objs.size + 3, s1.heap.objs.size, s1.heap.objs.size + 1], _, _, H1, rfl, I2,
        turn_zipS b1 b2 (zip_sep2 (N := s1.heap.objs.size) (fp1 := [a]) (fp2 := [b]) (fun c hc => by rw [List.mem_singleton.mp hc]; exact la) (fun c hc => by rw [List.mem_singleton.mp hc]; exact lb)), ⟨hz, hTI, ⟨_, _, hTO⟩, k1 _ _ g1, k2 _ _ g2⟩, fun c hcm => ?_, q⟩
      have e' : c = s1.heap.objs.size + 4 ∨ c = s1.heap.objs.size + 2 ∨ c = s1.heap.objs.size + 3 ∨ c = s1.heap.objs.size ∨ c = s1.heap.objs.size + 1 := by simpa using hcm
      have hle : s1.heap.objs.size ≤ c := by
        rcases e' with z | z | z | z | z
        · rw [z]; exact Nat.le_add_right _ _
        · rw [z]; exact Nat.le_add_right _ _
        · rw [z]; exact Nat.le_add_right _ _
        · rw [z]; exact Nat.le_refl _
        · rw [z]; exact Nat.le_add_right _ _
      exact I1.fpOk hle (I1.hok.fresh hle)
theorem walk_zipS {b1 b2 : Bool} {K : PySem.W.Frag} {a b : Addr} {xs ys : List V} (hn : xs.length = ys.length) : Walk (ItzS b1 b2 K a b) xs.length (fun H => Sq b1 K H a xs ∧ Sq b2 K H b ys) (YPair (fun i => xs[i]?) (fun i => ys[i]?)) := by
  refine ⟨fun i _ hi q => ?_, fun _ q => ⟨xs, ys, q.1, q.2, Nat.le_refl _, by omega, .inl (Nat.le_refl _)⟩, fun i H v H' _ q y => ?_⟩
  · exact ⟨xs, ys, xs[i], ys[i], q.1, q.2, by simp [hi], by simp [show i < ys.length by omega]⟩
  · obtain ⟨T, x, z, h1, h2, h3, h4, h5⟩ := y
    exact ⟨T, x, z, h1, h2, h3, h4 xs q.1, h5 ys q.2⟩
section
variable {K : PySem.W.Frag} {σ : St} {H : Hp} {t : TS} {D : Ends} {g : TG} {f bk ct : St → Hp → Prop} {rt : VK}
theorem w_iZipS {ta : TA} {R : It → Hp → Prop} (q : ta σ H fun vs H1 => ∃ a b, vs = [.ref a, .ref b] ∧ ∃ b1 b2 xs ys, Sq b1 K H1 a xs ∧ Sq b2 K H1 b ys ∧ R (ItzS b1 b2 K a b) H1) : iZipS K ta σ H R := q
theorem l_zip {b1 b2 : Bool} {a b : Addr} (xs ys : List V) (hn : xs.length = ys.length) (Pv : Nat → St → Hp → Prop) (hx : Sq b1 K H a xs) (hy : Sq b2 K H b ys) (h0 : Pv 0 σ H) (hG : ∀ i σ H, i ≤ xs.length → Pv i σ H → Sq b1 K H a xs ∧ Sq b2 K H b ys)
    (hs : ∀ (i : Nat) x y (T : Addr) σ' H', i < xs.length → xs[i]? = some x → ys[i]? = some y → Pv i σ' H' → H' T = none → g (.ref T) σ' (upd H' T (.tup [x, y])) fun σ2 H2 => t ⟨Pv (i + 1), rt, f, Pv (i + 1)⟩ σ2 H2) (hd : ∀ σ' H', Pv xs.length σ' H' → f σ' H') :
    ∃ a' b', [V.ref a, V.ref b] = [.ref a', .ref b'] ∧ ∃ b1 b2 xs ys, Sq b1 K H a' xs ∧ Sq b2 K H b' ys ∧ LoopOk (ItzS b1 b2 K a' b') g t ⟨f, rt, bk, ct⟩ σ H := by
  refine ⟨a, b, rfl, b1, b2, xs, ys, hx, hy, l_it (walk_zipS hn) Pv h0 hG (fun i x σ' H1 H2 hi hp hy => ?_) hd⟩
  obtain ⟨T, u, v, rfl, hT, e, hu, hv⟩ := hy
  subst e
  exact hs i u v T σ' _ hi hu hv hp hT
end

/-! ### list comprehensions -/
/-- what a comprehension asks of its walk J -/
def CompOk (J : It) (g : TG) (tt : TT) (te : TE) (vs : List Nat) (σ : St) (H1 : Hp) (Q : VK) : Prop := ∀ D, H1 D = none → ∃ W : Nat → Nat → Hp → Prop, (∃ m, W 0 m (upd H1 D (.lst []))) ∧ ∀ i m H, W i m H →
  (J.stop i H ∧ Q (.ref D) H) ∨ (J.go i H ∧ ∃ Nx : Hp → Prop, (∀ H', Nx H' → ∃ m', m' < m ∧ W (i + 1) m' H') ∧ ∀ x H', J.yld i H x H' → g x (wipe σ vs) H' fun σ2 H2 => wipe σ2 vs = wipe σ vs ∧ tt σ2 H2 fun b H3 =>
    if b = true then te σ2 H3 fun y H4 => ∃ acc, H4 D = some (.lst acc) ∧ acc.length < sizeLine ∧ Nx (upd H4 D (.lst (acc ++ [y]))) else Nx H3)
/-- the heap without what stands at D -/
def hide (D : Addr) (H : Hp) : Hp := fun b => if b = D then none else H b
theorem hide_at (D : Addr) (H : Hp) : hide D H D = none := if_pos rfl
theorem hide_ne {D b : Addr} {H : Hp} (h : b ≠ D) : hide D H b = H b := if_neg h
theorem hide_same (D : Addr) (H : Hp) : Same (hide D H) H := fun b o e => by
  by_cases h : b = D
  · subst h; rw [hide_at] at e; cases e
  · rw [hide_ne h] at e; exact e
theorem same_hide {D : Addr} {H H' : Hp} (e : Same H H') (h : H D = none) : Same H (hide D H') := fun b o q => by
  rw [hide_ne (ne_of_none q h)]
  exact e b o q
theorem hide_upd (D : Addr) (H : Hp) (o : HO) : hide D (upd H D o) = hide D H := by
  funext b
  by_cases h : b = D
  · subst h; rw [hide_at, hide_at]
  · rw [hide_ne h, hide_ne h, upd_ne h]
theorem hide_mono {D : Addr} {H H' : Hp} (e : Same H H') : Same (hide D H) (hide D H') := fun b o q => by
  by_cases h : b = D
  · subst h; rw [hide_at] at q; cases q
  · rw [hide_ne h] at q ⊢; exact e b o q
/-- no tuple, nothing frozen -/
def NTup : Option HO → Prop
  | some (.tup _) => False
  | some (.frz _ _) => False
  | _ => True
theorem NTup.lst {H : Hp} {D : Addr} {acc : List V} (h : H D = some (.lst acc)) : NTup (H D) := by rw [h]; trivial
theorem NTup.ins {H : Hp} {D C dx : Addr} {fs : List (Str × V)} (h : H D = some (.ins C dx fs)) : NTup (H D) := by rw [h]; trivial
theorem sq_hide {K : PySem.W.Frag} {D p : Addr} {H : Hp} {xs : List V} (hD : NTup (H D)) (h : Sq false K H p xs) : Sq false K (hide D H) p xs := by
  have h : SqT K H p xs := h
  rcases h with (h | ⟨o, h⟩) | h
  · exact .inl (.inl (by rw [hide_ne (fun e => by rw [← e, h] at hD; exact hD)]; exact h))
  · exact .inl (.inr ⟨o, by rw [hide_ne (fun e => by rw [← e, h] at hD; exact hD)]; exact h⟩)
  · exact .inr h
section
variable {K : PySem.W.Frag} {σ : St} {H : Hp} {tt : TT} {te : TE} {g : TG} {vs : List Nat} {Q : VK}
theorem w_lc {wi : TI} (q : wi σ H fun J H1 => CompOk J g tt te vs σ H1 Q) : tLc wi g tt te vs σ H Q := q
/-- every turn gives one item: R of the turn, the item and the heap without the new list -/
theorem l_comp {J : It} {n : Nat} {G : Hp → Prop} {Y : Nat → Hp → V → Hp → Prop} (w : Walk J n G Y) (hz : n < sizeLine) (R : Nat → V → Hp → Prop) (hR : ∀ i y H1 H2, Same H1 H2 → R i y H1 → R i y H2) (hG : ∀ H', Same H H' → G H')
    (hY : ∀ i x H1 H2, i < n → Y i H1 x H2 → Same H1 H2)
    (hs : ∀ i x H1 H2 D acc (N : VK), i < n → Same H H1 → H D = none → H1 D = some (.lst acc) → Y i H1 x H2 → Same H1 H2 → (∀ y H4, Same H2 H4 → R i y (hide D H4) → N y H4) → g x (wipe σ vs) H2 fun σ2 H3 => wipe σ2 vs = wipe σ vs ∧ te σ2 H3 N)
    (k : ∀ D H' ys, H D = none → Same H H' → H' D = some (.lst ys) → ys.length = n → (∀ (i : Nat) y, ys[i]? = some y → R i y (hide D H')) → Q (.ref D) H') : CompOk J g tYes te vs σ H Q := by
  intro D hD
  refine lc_it w (fun i H' => ∃ ys, H' D = some (.lst ys) ∧ ys.length = i ∧ Same H H' ∧ ∀ (j : Nat) y, ys[j]? = some y → R j y (hide D H')) ?_ (fun i H' _ ⟨ys, _, _, sm, _⟩ => hG H' sm) ?_ ?_
  · exact ⟨[], upd_same, rfl, Same.new hD, fun j y e => by simp at e⟩
  · rintro i x H1 H2 hi ⟨ys, e1, e2, sm, hr⟩ hy
    have s12 := hY i x H1 H2 hi hy
    refine hs i x H1 H2 D ys _ hi sm hD e1 hy s12 fun y H4 s24 r4 => ?_
    have e4 : H4 D = some (.lst ys) := s24 _ _ (s12 _ _ e1)
    refine ⟨ys, e4, by omega, ys ++ [y], upd_same, by rw [List.length_append, e2]; rfl, Same.mut ((sm.trans s12).trans s24) hD, fun j z ez => ?_⟩
    rw [hide_upd]
    by_cases hj : j < ys.length
    · rw [List.getElem?_append_left hj] at ez
      exact hR _ _ _ _ (hide_mono (s12.trans s24)) (hr j z ez)
    · have hlen := (List.getElem?_eq_some_iff.mp ez).1
      rw [List.length_append] at hlen
      have ej : j = ys.length := by
        have : j < ys.length + 1 := hlen
        omega
      subst ej
      rw [List.getElem?_append_right (Nat.le_refl _), Nat.sub_self] at ez
      have ey : y = z := Option.some.inj ez
      subst ey
      rw [e2]
      exact r4
  · rintro H' ⟨ys, e1, e2, sm, hr⟩
    exact k D H' ys hD sm e1 e2 hr
/-- over a list or a tuple -/
theorem l_compS {b : Bool} {a : Addr} {j : Nat} (xs : List V) (hx : Sq b K H a xs) (hz : xs.length < sizeLine) (R : Nat → V → Hp → Prop) (hR : ∀ i y H1 H2, Same H1 H2 → R i y H1 → R i y H2)
    (hw : ∀ x : V, wipe ((wipe σ vs).set j (some x)) vs = wipe σ vs)
    (hs : ∀ (i : Nat) x H1 D acc (N : VK), i < xs.length → xs[i]? = some x → Same H H1 → H D = none → H1 D = some (.lst acc) → (∀ y H4, Same H1 H4 → R i y (hide D H4) → N y H4) → te ((wipe σ vs).set j (some x)) H1 N)
    (k : ∀ D H' ys, H D = none → Same H H' → H' D = some (.lst ys) → ys.length = xs.length → (∀ (i : Nat) y, ys[i]? = some y → R i y (hide D H')) → Q (.ref D) H') :
    ∃ a', V.ref a = .ref a' ∧ ((∃ xs, SqL K H a' xs) ∧ CompOk (Itl K a') (gName j) tYes te vs σ H Q ∨ (∃ xs, SqT K H a' xs) ∧ CompOk (Itt K a') (gName j) tYes te vs σ H Q) := by
  refine ⟨a, rfl, ?_⟩
  cases b with
  | true =>
    refine .inl ⟨⟨xs, hx⟩, l_comp (walk_list (xs := xs)) hz R hR (fun H' sm => sm.sq (b := true) hx) (fun i x H1 H2 hi hy => by rw [hy.1]; exact Same.refl _) (fun i x H1 H2 D acc N hi sm hD e1 hy s12 hN => ?_) k⟩
    obtain ⟨e, ex⟩ := hy
    subst e
    exact ⟨hw x, hs i x _ D acc N hi ex sm hD e1 hN⟩
  | false =>
    refine .inr ⟨⟨xs, hx⟩, l_comp (walk_tup (xs := xs)) hz R hR (fun H' sm => sm.sq (b := false) hx) (fun i x H1 H2 hi hy => by rw [hy.1]; exact Same.refl _) (fun i x H1 H2 D acc N hi sm hD e1 hy s12 hN => ?_) k⟩
    obtain ⟨e, ex⟩ := hy
    subst e
    exact ⟨hw x, hs i x _ D acc N hi ex sm hD e1 hN⟩
/-- over range(n) -/
theorem l_compR {n : Int} {j : Nat} (h1 : -(2 ^ 62) ≤ n) (h2 : n < 16000000) (R : Nat → V → Hp → Prop) (hR : ∀ i y H1 H2, Same H1 H2 → R i y H1 → R i y H2)
    (hw : ∀ x : V, wipe ((wipe σ vs).set j (some x)) vs = wipe σ vs)
    (hs : ∀ (i : Nat) H1 D acc (N : VK), (i : Int) < n → Same H H1 → H D = none → H1 D = some (.lst acc) → (∀ y H4, Same H1 H4 → R i y (hide D H4) → N y H4) → te ((wipe σ vs).set j (some (.int (i : Int)))) H1 N)
    (k : ∀ D H' ys, H D = none → Same H H' → H' D = some (.lst ys) → ys.length = n.toNat → (∀ (i : Nat) y, ys[i]? = some y → R i y (hide D H')) → Q (.ref D) H') :
    ∃ j' : Int, [V.int n] = [.int j'] ∧ -(2 ^ 62) ≤ j' ∧ j' < 2 ^ 62 ∧ CompOk (Itr 0 j'.toNat) (gName j) tYes te vs σ H Q := by
  refine ⟨n, rfl, h1, by omega, l_comp (walk_range (lo := 0) (n := n.toNat)) (by rw [sizeLine_eq]; omega) R hR (fun _ _ => trivial) (fun i x H1 H2 hi hy => by rw [hy.1]; exact Same.refl _) (fun i x H1 H2 D acc N hi sm hD e1 hy s12 hN => ?_) k⟩
  obtain ⟨e, ex⟩ := hy
  subst e ex
  show wipe ((wipe σ vs).set j (some (.int (0 + (i : Int))))) vs = wipe σ vs ∧ te ((wipe σ vs).set j (some (.int (0 + (i : Int))))) _ N
  rw [Int.zero_add]
  exact ⟨hw _, hs i _ D acc N (by omega) sm hD e1 hN⟩
/-- over zip of two -/
theorem l_compZ {b1 b2 : Bool} {a b : Addr} {i1 i2 nn : Nat} (xs ys : List V) (hn : xs.length = ys.length) (hx : Sq b1 K H a xs) (hy : Sq b2 K H b ys) (hz : xs.length < sizeLine) (R : Nat → V → Hp → Prop) (hR : ∀ i y H1 H2, Same H1 H2 → R i y H1 → R i y H2) (hnn : nn = 2)
    (hw : ∀ x y : V, wipe (((wipe σ vs).set i1 (some x)).set i2 (some y)) vs = wipe σ vs)
    (hs : ∀ (i : Nat) x y H1 D acc (N : VK), i < xs.length → xs[i]? = some x → ys[i]? = some y → Same H H1 → H D = none → H1 D = some (.lst acc) → (∀ y H4, Same H1 H4 → R i y (hide D H4) → N y H4) → te (((wipe σ vs).set i1 (some x)).set i2 (some y)) H1 N)
    (k : ∀ D H' ys, H D = none → Same H H' → H' D = some (.lst ys) → ys.length = xs.length → (∀ (i : Nat) y, ys[i]? = some y → R i y (hide D H')) → Q (.ref D) H') :
    ∃ a' b', [V.ref a, V.ref b] = [.ref a', .ref b'] ∧ ∃ b1 b2 xs ys, Sq b1 K H a' xs ∧ Sq b2 K H b' ys ∧ CompOk (ItzS b1 b2 K a' b') (gTup K nn (gCons (gName i1) (gCons (gName i2) gNil))) tYes te vs σ H Q := by
  subst hnn
  refine ⟨a, b, rfl, b1, b2, xs, ys, hx, hy, l_comp (walk_zipS hn) hz R hR (fun H' sm => ⟨sm.sq hx, sm.sq hy⟩) (fun i x H1 H2 hi hy => ?_) (fun i x H1 H2 D acc N hi sm hD e1 hy s12 hN => ?_) k⟩
  · obtain ⟨T, u, v, rfl, hT, e, hu, hv⟩ := hy
    subst e
    exact Same.new hT
  · obtain ⟨T, u, v, rfl, hT, e, hu, hv⟩ := hy
    subst e
    exact w_pair (Sq.tup upd_same) ⟨hw u v, hs i u v _ D acc N hi hu hv (sm.trans s12) hD (s12 _ _ e1) hN⟩
end
end L2

namespace L2
open PySem PySem.Spec PyProof.Rows
/-! ### data over the heap: relations that new objects leave as they are -/
abbrev Rep (α : Type) := Hp → V → α → Prop
def RMono {α : Type} (R : Rep α) : Prop := ∀ H H' v x, Same H H' → R H v x → R H' v x
/-- no list in it: what stands at a list may be left out -/
def RTup {α : Type} (R : Rep α) : Prop := ∀ H D v x, NTup (H D) → R H v x → R (hide D H) v x
def RLst {α : Type} (R : Rep α) : Prop := ∀ H D v x ys, H D = some (.lst ys) → R H v x → R (hide D H) v x
theorem RTup.lst {α : Type} {R : Rep α} (h : RTup R) : RLst R := fun H D v x _ e r => h H D v x (NTup.lst e) r
def RInt : Rep Int := fun _ v i => v = .int i
/-- numbers in a list (true) or a tuple (false) -/
def RVec (b : Bool) (K : PySem.W.Frag) : Rep (List Int) := fun H v ns => ∃ a, v = .ref a ∧ Sq b K H a (ns.map V.int)
def RSeq (b : Bool) (K : PySem.W.Frag) {α : Type} (R : Rep α) : Rep (List α) := fun H v xs => ∃ a vs, v = .ref a ∧ Sq b K H a vs ∧ vs.length = xs.length ∧ ∀ (i : Nat) y x, vs[i]? = some y → xs[i]? = some x → R H y x
def RPair (K : PySem.W.Frag) {α β : Type} (R : Rep α) (S : Rep β) : Rep (α × β) := fun H v p => ∃ a x y, v = .ref a ∧ Sq false K H a [x, y] ∧ R H x p.1 ∧ S H y p.2
section
variable {K : PySem.W.Frag} {α β : Type} {R : Rep α} {S : Rep β} {b : Bool}
theorem RInt.mono : RMono RInt := fun _ _ _ _ _ h => h
theorem RInt.tup : RTup RInt := fun _ _ _ _ _ h => h
theorem RVec.mono : RMono (RVec b K) := fun _ _ _ _ s ⟨a, e, h⟩ => ⟨a, e, s.sq h⟩
theorem RVec.tup : RTup (RVec false K) := fun _ _ _ _ hD ⟨a, e, h⟩ => ⟨a, e, sq_hide hD h⟩
theorem RSeq.mono (hR : RMono R) : RMono (RSeq b K R) := fun _ _ _ _ s ⟨a, vs, e, h, hl, q⟩ => ⟨a, vs, e, s.sq h, hl, fun i y x h1 h2 => hR _ _ _ _ s (q i y x h1 h2)⟩
theorem RSeq.tup (hR : RTup R) : RTup (RSeq false K R) := fun _ _ _ _ hD ⟨a, vs, e, h, hl, q⟩ => ⟨a, vs, e, sq_hide hD h, hl, fun i y x h1 h2 => hR _ _ _ _ hD (q i y x h1 h2)⟩
theorem RPair.mono (hR : RMono R) (hS : RMono S) : RMono (RPair K R S) := fun _ _ _ _ s ⟨a, x, y, e, h, h1, h2⟩ => ⟨a, x, y, e, s.sq h, hR _ _ _ _ s h1, hS _ _ _ _ s h2⟩
theorem RPair.tup (hR : RTup R) (hS : RTup S) : RTup (RPair K R S) := fun _ _ _ _ hD ⟨a, x, y, e, h, h1, h2⟩ => ⟨a, x, y, e, sq_hide hD h, hR _ _ _ _ hD h1, hS _ _ _ _ hD h2⟩
theorem RSeq.get {H : Hp} {vs : List V} {xs : List α} (hl : vs.length = xs.length) (q : ∀ (i : Nat) y x, vs[i]? = some y → xs[i]? = some x → R H y x) {i : Nat} {x : α} (h : xs[i]? = some x) : ∃ y, vs[i]? = some y ∧ R H y x := by
  have hi := (List.getElem?_eq_some_iff.mp h).1
  exact ⟨vs[i], List.getElem?_eq_getElem (by omega), q i _ x (List.getElem?_eq_getElem (by omega)) h⟩
theorem vec_at {ns : List Int} {i : Nat} {y : V} (h : (ns.map V.int)[i]? = some y) : y = .int (nth ns (i : Nat)) ∧ i < ns.length := by
  have hi := (List.getElem?_eq_some_iff.mp h).1
  rw [List.length_map] at hi
  rw [List.getElem?_map, List.getElem?_eq_getElem hi] at h
  refine ⟨?_, hi⟩
  rw [← Option.some.inj h, nth_nat, List.getD_eq_getElem?_getD, List.getElem?_eq_getElem hi]
  rfl
theorem vec_get {ns : List Int} {i : Nat} (hi : i < ns.length) : (ns.map V.int)[i]? = some (.int (nth ns (i : Nat))) := by
  rw [List.getElem?_map, List.getElem?_eq_getElem hi, nth_nat, List.getD_eq_getElem?_getD, List.getElem?_eq_getElem hi]
  rfl
theorem vec_of {ys : List V} {ns : List Int} (hl : ys.length = ns.length) (h : ∀ (i : Nat) y, ys[i]? = some y → y = .int (nth ns (i : Nat))) : ys = ns.map V.int := by
  refine List.ext_getElem? fun i => ?_
  by_cases hi : i < ys.length
  · rw [vec_get (by omega), List.getElem?_eq_getElem hi]
    exact congrArg some (h i _ (List.getElem?_eq_getElem hi))
  · rw [List.getElem?_eq_none (by omega), List.getElem?_eq_none (by rw [List.length_map]; omega)]
end
section
variable {K : PySem.W.Frag} {σ : St} {H : Hp} {te : TE} {vs : List Nat} {Q : VK} {b b1 b2 : Bool} {a a1 a2 : Addr} {j : Nat}
/-- a comprehension that gives numbers -/
theorem c_ints (xs : List V) (hx : Sq b K H a xs) (ms : List Int) (hl : ms.length = xs.length) (hz : xs.length < sizeLine) (hw : ∀ x : V, wipe ((wipe σ vs).set j (some x)) vs = wipe σ vs)
    (hs : ∀ (i : Nat) x H1 (N : VK), i < xs.length → xs[i]? = some x → Same H H1 → (∀ H4, Same H1 H4 → N (.int (nth ms (i : Nat))) H4) → te ((wipe σ vs).set j (some x)) H1 N)
    (k : ∀ D H', H D = none → Same H H' → H' D = some (.lst (ms.map V.int)) → Q (.ref D) H') :
    ∃ a', V.ref a = .ref a' ∧ ((∃ xs, SqL K H a' xs) ∧ CompOk (Itl K a') (gName j) tYes te vs σ H Q ∨ (∃ xs, SqT K H a' xs) ∧ CompOk (Itt K a') (gName j) tYes te vs σ H Q) :=
  l_compS xs hx hz (fun i y _ => y = .int (nth ms (i : Nat))) (fun _ _ _ _ _ h => h) hw (fun i x H1 D acc N hi hxi sm hD e1 hN => hs i x H1 N hi hxi sm fun H4 s4 => hN _ H4 s4 rfl)
    (fun D H' ys hD sm e hly hr => k D H' hD sm (by rw [e, vec_of (by omega) hr]))
theorem c_intsR {n : Int} (h1 : -(2 ^ 62) ≤ n) (h2 : n < 16000000) (ms : List Int) (hl : ms.length = n.toNat) (hw : ∀ x : V, wipe ((wipe σ vs).set j (some x)) vs = wipe σ vs)
    (hs : ∀ (i : Nat) H1 (N : VK), (i : Int) < n → Same H H1 → (∀ H4, Same H1 H4 → N (.int (nth ms (i : Nat))) H4) → te ((wipe σ vs).set j (some (.int (i : Int)))) H1 N)
    (k : ∀ D H', H D = none → Same H H' → H' D = some (.lst (ms.map V.int)) → Q (.ref D) H') :
    ∃ j' : Int, [V.int n] = [.int j'] ∧ -(2 ^ 62) ≤ j' ∧ j' < 2 ^ 62 ∧ CompOk (Itr 0 j'.toNat) (gName j) tYes te vs σ H Q :=
  l_compR h1 h2 (fun i y _ => y = .int (nth ms (i : Nat))) (fun _ _ _ _ _ h => h) hw (fun i H1 D acc N hi sm hD e1 hN => hs i H1 N hi sm fun H4 s4 => hN _ H4 s4 rfl)
    (fun D H' ys hD sm e hly hr => k D H' hD sm (by rw [e, vec_of (by omega) hr]))
theorem c_intsZ {i1 i2 nn : Nat} (xs ys : List V) (hn : xs.length = ys.length) (hx : Sq b1 K H a1 xs) (hy : Sq b2 K H a2 ys) (ms : List Int) (hl : ms.length = xs.length) (hz : xs.length < sizeLine) (hnn : nn = 2)
    (hw : ∀ x y : V, wipe (((wipe σ vs).set i1 (some x)).set i2 (some y)) vs = wipe σ vs)
    (hs : ∀ (i : Nat) x y H1 (N : VK), i < xs.length → xs[i]? = some x → ys[i]? = some y → Same H H1 → (∀ H4, Same H1 H4 → N (.int (nth ms (i : Nat))) H4) → te (((wipe σ vs).set i1 (some x)).set i2 (some y)) H1 N)
    (k : ∀ D H', H D = none → Same H H' → H' D = some (.lst (ms.map V.int)) → Q (.ref D) H') :
    ∃ a' b', [V.ref a1, V.ref a2] = [.ref a', .ref b'] ∧ ∃ b1 b2 xs ys, Sq b1 K H a' xs ∧ Sq b2 K H b' ys ∧ CompOk (ItzS b1 b2 K a' b') (gTup K nn (gCons (gName i1) (gCons (gName i2) gNil))) tYes te vs σ H Q :=
  l_compZ xs ys hn hx hy hz (fun i y _ => y = .int (nth ms (i : Nat))) (fun _ _ _ _ _ h => h) hnn hw (fun i x y H1 D acc N hi hxi hyi sm hD e1 hN => hs i x y H1 N hi hxi hyi sm fun H4 s4 => hN _ H4 s4 rfl)
    (fun D H' zs hD sm e hly hr => k D H' hD sm (by rw [e, vec_of (by omega) hr]))
/-- a comprehension that gives data without the new list in them -/
theorem c_repL {α : Type} {R : Rep α} (hm : RMono R) (ht : RLst R) (xs : List V) (hx : Sq b K H a xs) (ds : List α) (hl : ds.length = xs.length) (hz : xs.length < sizeLine) (hw : ∀ x : V, wipe ((wipe σ vs).set j (some x)) vs = wipe σ vs)
    (hs : ∀ (i : Nat) x d H1 (N : VK), i < xs.length → xs[i]? = some x → ds[i]? = some d → Same H H1 → (∀ y H4, Same H1 H4 → R H4 y d → N y H4) → te ((wipe σ vs).set j (some x)) H1 N)
    (k : ∀ D H' ys, H D = none → Same H H' → H' D = some (.lst ys) → ys.length = ds.length → (∀ (i : Nat) y d, ys[i]? = some y → ds[i]? = some d → R H' y d) → Q (.ref D) H') :
    ∃ a', V.ref a = .ref a' ∧ ((∃ xs, SqL K H a' xs) ∧ CompOk (Itl K a') (gName j) tYes te vs σ H Q ∨ (∃ xs, SqT K H a' xs) ∧ CompOk (Itt K a') (gName j) tYes te vs σ H Q) :=
  l_compS xs hx hz (fun i y H' => ∀ d, ds[i]? = some d → R H' y d) (fun _ _ _ _ s h d hd => hm _ _ _ _ s (h d hd)) hw
    (fun i x H1 D acc N hi hxi sm hD e1 hN => by
      obtain ⟨d, hd⟩ : ∃ d, ds[i]? = some d := ⟨ds[i]'(by omega), List.getElem?_eq_getElem (by omega)⟩
      refine hs i x d H1 N hi hxi hd sm fun y H4 s4 r4 => hN y H4 s4 fun d' hd' => ?_
      rw [hd] at hd'
      cases hd'
      exact ht _ D _ _ _ (s4 _ _ e1) r4)
    (fun D H' ys hD sm e hly hr => k D H' ys hD sm e (by omega) fun i y d h1 h2 => hm _ _ _ _ (hide_same D H') (hr i y h1 d h2))
/-- a comprehension that gives data without lists -/
theorem c_rep {α : Type} {R : Rep α} (hm : RMono R) (ht : RTup R) (xs : List V) (hx : Sq b K H a xs) (ds : List α) (hl : ds.length = xs.length) (hz : xs.length < sizeLine) (hw : ∀ x : V, wipe ((wipe σ vs).set j (some x)) vs = wipe σ vs)
    (hs : ∀ (i : Nat) x d H1 (N : VK), i < xs.length → xs[i]? = some x → ds[i]? = some d → Same H H1 → (∀ y H4, Same H1 H4 → R H4 y d → N y H4) → te ((wipe σ vs).set j (some x)) H1 N)
    (k : ∀ D H' ys, H D = none → Same H H' → H' D = some (.lst ys) → ys.length = ds.length → (∀ (i : Nat) y d, ys[i]? = some y → ds[i]? = some d → R H' y d) → Q (.ref D) H') :
    ∃ a', V.ref a = .ref a' ∧ ((∃ xs, SqL K H a' xs) ∧ CompOk (Itl K a') (gName j) tYes te vs σ H Q ∨ (∃ xs, SqT K H a' xs) ∧ CompOk (Itt K a') (gName j) tYes te vs σ H Q) :=
  c_repL hm ht.lst xs hx ds hl hz hw hs k
theorem c_repR {α : Type} {R : Rep α} {n : Int} (hm : RMono R) (ht : RTup R) (h1 : -(2 ^ 62) ≤ n) (h2 : n < 16000000) (ds : List α) (hl : ds.length = n.toNat) (hw : ∀ x : V, wipe ((wipe σ vs).set j (some x)) vs = wipe σ vs)
    (hs : ∀ (i : Nat) d H1 (N : VK), (i : Int) < n → ds[i]? = some d → Same H H1 → (∀ y H4, Same H1 H4 → R H4 y d → N y H4) → te ((wipe σ vs).set j (some (.int (i : Int)))) H1 N)
    (k : ∀ D H' ys, H D = none → Same H H' → H' D = some (.lst ys) → ys.length = ds.length → (∀ (i : Nat) y d, ys[i]? = some y → ds[i]? = some d → R H' y d) → Q (.ref D) H') :
    ∃ j' : Int, [V.int n] = [.int j'] ∧ -(2 ^ 62) ≤ j' ∧ j' < 2 ^ 62 ∧ CompOk (Itr 0 j'.toNat) (gName j) tYes te vs σ H Q :=
  l_compR h1 h2 (fun i y H' => ∀ d, ds[i]? = some d → R H' y d) (fun _ _ _ _ s h d hd => hm _ _ _ _ s (h d hd)) hw
    (fun i H1 D acc N hi sm hD e1 hN => by
      obtain ⟨d, hd⟩ : ∃ d, ds[i]? = some d := ⟨ds[i]'(by omega), List.getElem?_eq_getElem (by omega)⟩
      refine hs i d H1 N hi hd sm fun y H4 s4 r4 => hN y H4 s4 fun d' hd' => ?_
      rw [hd] at hd'
      cases hd'
      exact ht _ D _ _ (NTup.lst (s4 _ _ e1)) r4)
    (fun D H' ys hD sm e hly hr => k D H' ys hD sm e (by omega) fun i y d h1 h2 => hm _ _ _ _ (hide_same D H') (hr i y h1 d h2))
/-- the same data twice -/
theorem RInt.sm {n : Nat} {x y : V} {i : Int} (h1 : RInt H x i) (h2 : RInt H y i) : Sm K H n x y := by
  cases h1
  cases h2
  exact Sm.int
theorem RSeq.sm {α : Type} {R S : Rep α} {n : Nat} {x y : V} {ds : List α} (hz : ds.length ≤ 100000) (hRS : ∀ x y d, d ∈ ds → R H x d → S H y d → Sm K H n x y) (h1 : RSeq false K R H x ds) (h2 : RSeq b K S H y ds) : Sm K H (n + 1) x y := by
  obtain ⟨a, xs, rfl, hx, hxl, hxr⟩ := h1
  obtain ⟨a', ys, rfl, hy, hyl, hyr⟩ := h2
  refine .inr ⟨a, a', b, xs, ys, rfl, rfl, hx, hy, by omega, by omega, fun i x' y' e1 e2 => ?_⟩
  have hi := (List.getElem?_eq_some_iff.mp e1).1
  have hd : ds[i]? = some (ds[i]'(by omega)) := List.getElem?_eq_getElem (by omega)
  exact hRS _ _ _ (List.mem_of_getElem? hd) (hxr i _ _ e1 hd) (hyr i _ _ e2 hd)
theorem RVec.sm {n : Nat} {x y : V} {ns : List Int} (hz : ns.length ≤ 100000) (h1 : RVec false K H x ns) (h2 : RVec b K H y ns) : Sm K H (n + 1) x y := by
  obtain ⟨a, rfl, hx⟩ := h1
  obtain ⟨a', rfl, hy⟩ := h2
  refine .inr ⟨a, a', b, _, _, rfl, rfl, hx, hy, rfl, by rw [List.length_map]; exact hz, fun i x' y' e1 e2 => ?_⟩
  rw [(vec_at e1).1, (vec_at e2).1]
  exact Sm.int
theorem RPair.sm {α β : Type} {R R' : Rep α} {S S' : Rep β} {n : Nat} {x y : V} {p : α × β} (hR : ∀ x y, R H x p.1 → R' H y p.1 → Sm K H n x y) (hS : ∀ x y, S H x p.2 → S' H y p.2 → Sm K H n x y) (h1 : RPair K R S H x p) (h2 : RPair K R' S' H y p) : Sm K H (n + 1) x y := by
  obtain ⟨a, x1, x2, rfl, hx, r1, r2⟩ := h1
  obtain ⟨a', y1, y2, rfl, hy, q1, q2⟩ := h2
  refine .inr ⟨a, a', false, _, _, rfl, rfl, hx, hy, rfl, by show 2 ≤ 100000; omega, fun i x' y' e1 e2 => ?_⟩
  match i, e1, e2 with
  | 0, e1, e2 => cases e1; cases e2; exact hR _ _ r1 q1
  | 1, e1, e2 => cases e1; cases e2; exact hS _ _ r2 q2
  | i + 2, e1, _ => simp at e1
end
/-! ### fields of objects -/
section
variable {K : PySem.W.Frag} {σ : St} {H : Hp} {v : V} {Q : VK} {ta : TE} {D : Ends}
theorem lk_here {f : Str} {v : V} {r : List (Str × V)} : List.lookup f ((f, v) :: r) = some v := by simp [List.lookup]
theorem lk_next {f g : Str} {v : V} {r : List (Str × V)} {o : Option V} (h : (f == g) = false) (q : List.lookup f r = o) : List.lookup f ((g, v) :: r) = o := by
  rw [List.lookup, h]; exact q
theorem pf_here {f : Str} {v u : V} {r : List (Str × V)} : putF f v ((f, u) :: r) = (f, v) :: r := by
  show (if f = f then _ else _) = _
  rw [if_pos rfl]
theorem pf_next {f g : Str} {v u : V} {r r' : List (Str × V)} (h : (g == f) = false) (q : putF f v r = r') : putF f v ((g, u) :: r) = (g, u) :: r' := by
  have hne : ¬ g = f := fun e => by rw [e] at h; simp at h
  show (if g = f then _ else (g, u) :: putF f v r) = _
  rw [if_neg hne, q]
theorem pf_nil {f : Str} {v : V} : putF f v [] = [(f, v)] := rfl
theorem w_fld {f : Str} (q : ta σ H fun x H1 => ∃ a C dx fs v, x = .ref a ∧ H1 a = some (.ins C dx fs) ∧ Cls K C ∧ NoAttr K C f ∧ fs.lookup f = some v ∧ Q v H1) : tFld K ta f σ H Q := q
theorem w_fldAt {f : Str} {p C dx : Addr} {fs : List (Str × V)} (h : H p = some (.ins C dx fs)) (c : Cls K C) (n : NoAttr K C f) (l : fs.lookup f = some v) {F : V → Prop} (q : F v) :
    ∃ a C dx fs v, V.ref p = .ref a ∧ H a = some (.ins C dx fs) ∧ Cls K C ∧ NoAttr K C f ∧ fs.lookup f = some v ∧ F v := ⟨p, C, dx, fs, v, rfl, h, c, n, l, q⟩
theorem w_sfld {f : Str} {tv : TE} {nx b' c' : St → Hp → Prop} {rt : VK} (q : tv σ H fun y H1 => ta σ H1 fun x H2 => ∃ a C dx fs, x = .ref a ∧ H2 a = some (.ins C dx fs) ∧ Cls K C ∧ NoAttr K C f ∧ fs.length < 1000 ∧ nx σ (upd H2 a (.ins C dx (putF f y fs)))) : sFld K ta tv f ⟨nx, rt, b', c'⟩ σ H := q
theorem w_sfldAt {f : Str} {p C dx : Addr} {fs fs' : List (Str × V)} {y : V} (h : H p = some (.ins C dx fs)) (c : Cls K C) (n : NoAttr K C f) (hl : fs.length < 1000) (e : putF f y fs = fs') {F : Hp → Prop} (q : F (upd H p (.ins C dx fs'))) :
    ∃ a C dx fs, V.ref p = .ref a ∧ H a = some (.ins C dx fs) ∧ Cls K C ∧ NoAttr K C f ∧ fs.length < 1000 ∧ F (upd H a (.ins C dx (putF f y fs))) := ⟨p, C, dx, fs, rfl, h, c, n, hl, by rw [e]; exact q⟩
theorem w_meth {C : Addr} {m : Str} {sp : Sp} {dvs : List V} {E : XK} {t : TA} (q : ta σ H fun x H1 => ∃ a dx fs, x = .ref a ∧ H1 a = some (.ins C dx fs) ∧ fs.lookup m = none ∧ t σ H1 fun vs H2 => sp (x :: (vs ++ dvs)) H2 Q E) : tMeth C m sp dvs E ta t σ H Q := q
theorem w_methAt {m : Str} {p C dx : Addr} {fs : List (Str × V)} {B : Prop} (h : H p = some (.ins C dx fs)) (l : fs.lookup m = none) (q : B) : ∃ a dx fs, V.ref p = .ref a ∧ H a = some (.ins C dx fs) ∧ fs.lookup m = none ∧ B := ⟨p, dx, fs, rfl, h, l, q⟩
theorem w_make {C : Addr} {sp : Sp} {dvs : List V} {E : XK} {t : TA} (q : t σ H fun vs H1 => ∀ x dx, H1 x = none → H1 dx = none → dx ≠ x → sp (.ref x :: (vs ++ dvs)) (upd (upd H1 dx (.own x)) x (.ins C dx [])) (fun v H2 => v = .non ∧ Q (.ref x) H2) E) : tMake C sp dvs E t σ H Q := q
theorem w_notInS {neg : Bool} {x : V} {p : Addr} {xs : List V} {b : Bool} (h : Sq b K H p xs) (hx : flatV x = true) (ha : xs.all flatV = true) (q : Q (.bl (if neg then !inV x xs else inV x xs)) H) : rIn K neg x (.ref p) H Q := ⟨p, xs, rfl, h.or, hx, ha, q⟩
theorem w_chain {r r' : R2} {tb tc : TE} (q : ta σ H fun x H1 => tb σ H1 fun y H2 => r x y H2 fun z H3 => ∃ k, z = .bl k ∧ if k = true then tc σ H3 fun w H4 => r' y w H4 Q else Q (.bl false) H3) : tChain r r' ta tb tc σ H Q := q
end
end L2

namespace L2
open PySem PySem.Spec PyProof.Rows
theorem RTup.upd {α : Type} {R : Rep α} (ht : RTup R) (hm : RMono R) {H : Hp} {D : Addr} {o : HO} {v : V} {x : α} (hD : NTup (H D)) (h : R H v x) : R (L2.upd H D o) v x := by
  have h1 := ht _ _ _ _ hD h
  rw [← hide_upd D H o] at h1
  exact hm _ _ _ _ (hide_same D _) h1
/-- a list that a loop fills: at D, its items relate to the data without the list itself -/
structure Filled {α : Type} (R : Rep α) (H0 H : Hp) (D : Addr) (ds : List α) : Prop where
  new : H0 D = none
  same : Same H0 H
  at_ : ∃ ys, H D = some (.lst ys) ∧ ys.length = ds.length ∧ ∀ (i : Nat) y d, ys[i]? = some y → ds[i]? = some d → R (hide D H) y d
theorem Filled.nil {α : Type} {R : Rep α} {H : Hp} {D : Addr} (h : H D = none) : Filled R H (L2.upd H D (.lst [])) D [] :=
  ⟨h, Same.new h, [], upd_same, rfl, fun i y d e => by simp at e⟩
theorem Filled.mono {α : Type} {R : Rep α} (hm : RMono R) {H0 H H' : Hp} {D : Addr} {ds : List α} (f : Filled R H0 H D ds) (s : Same H H') : Filled R H0 H' D ds := by
  obtain ⟨ys, e, hl, hr⟩ := f.at_
  exact ⟨f.new, f.same.trans s, ys, s _ _ e, hl, fun i y d h1 h2 => hm _ _ _ _ (hide_mono s) (hr i y d h1 h2)⟩
theorem Filled.push {α : Type} {R : Rep α} {H0 H : Hp} {D : Addr} {ds : List α} {d : α} {y : V} (f : Filled R H0 H D ds) (hy : R (hide D H) y d) : ∃ ys, H D = some (.lst ys) ∧ ys.length = ds.length ∧ Filled R H0 (L2.upd H D (.lst (ys ++ [y]))) D (ds ++ [d]) := by
  obtain ⟨ys, e, hl, hr⟩ := f.at_
  refine ⟨ys, e, hl, f.new, Same.mut f.same f.new, ys ++ [y], upd_same, by simp [hl], fun i y' d' h1 h2 => ?_⟩
  rw [hide_upd]
  by_cases hi : i < ys.length
  · rw [List.getElem?_append_left hi] at h1
    rw [List.getElem?_append_left (by omega)] at h2
    exact hr i y' d' h1 h2
  · have h3 := (List.getElem?_eq_some_iff.mp h1).1
    rw [List.length_append] at h3
    have ei : i = ys.length := by
      have : i < ys.length + 1 := h3
      omega
    subst ei
    rw [List.getElem?_append_right (Nat.le_refl _), Nat.sub_self] at h1
    rw [hl, List.getElem?_append_right (Nat.le_refl _), Nat.sub_self] at h2
    cases h1
    cases h2
    exact hy
theorem Filled.seq {α : Type} {R : Rep α} (hm : RMono R) {K : PySem.W.Frag} {H0 H : Hp} {D : Addr} {ds : List α} (f : Filled R H0 H D ds) : RSeq true K R H (.ref D) ds := by
  obtain ⟨ys, e, hl, hr⟩ := f.at_
  exact ⟨D, ys, rfl, Sq.lst e, hl, fun i y d h1 h2 => hm _ _ _ _ (hide_same D H) (hr i y d h1 h2)⟩
section
variable {K : PySem.W.Frag} {σ : St} {H : Hp} {N : St → Hp → Prop}
theorem w_pairG {i : Nat} {g : TG} {a : Addr} {x y : V} (h : Sq false K H a [x, y]) (q : g y (σ.set i (some x)) H N) : gTup K 2 (gCons (gName i) (gCons g gNil)) (.ref a) σ H N :=
  ⟨a, [x, y], rfl, h, rfl, x, [y], rfl, y, [], rfl, (by
    have : (fun σ' H' => gNil [] σ' H' N) = N := by
      funext σ' H'
      exact propext ⟨fun h => h.2, fun h => ⟨rfl, h⟩⟩
    rw [this]; exact q)⟩
theorem w_trip {i j k : Nat} {a : Addr} {x y z : V} (h : Sq false K H a [x, y, z]) (q : N (((σ.set i (some x)).set j (some y)).set k (some z)) H) : gTup K 3 (gCons (gName i) (gCons (gName j) (gCons (gName k) gNil))) (.ref a) σ H N :=
  ⟨a, [x, y, z], rfl, h, rfl, x, [y, z], rfl, y, [z], rfl, z, [], rfl, rfl, q⟩
theorem w_five {i1 i2 i3 i4 i5 : Nat} {a : Addr} {x1 x2 x3 x4 x5 : V} (h : Sq false K H a [x1, x2, x3, x4, x5]) (q : N (((((σ.set i1 (some x1)).set i2 (some x2)).set i3 (some x3)).set i4 (some x4)).set i5 (some x5)) H) :
    gTup K 5 (gCons (gName i1) (gCons (gName i2) (gCons (gName i3) (gCons (gName i4) (gCons (gName i5) gNil))))) (.ref a) σ H N :=
  ⟨a, [x1, x2, x3, x4, x5], rfl, h, rfl, x1, [x2, x3, x4, x5], rfl, x2, [x3, x4, x5], rfl, x3, [x4, x5], rfl, x4, [x5], rfl, x5, [], rfl, rfl, q⟩
theorem RSeq.five {α : Type} {R : Rep α} {v : V} {d0 d1 d2 d3 d4 : α} (h : RSeq false K R H v [d0, d1, d2, d3, d4]) : ∃ a x0 x1 x2 x3 x4, v = .ref a ∧ Sq false K H a [x0, x1, x2, x3, x4] ∧ R H x0 d0 ∧ R H x1 d1 ∧ R H x2 d2 ∧ R H x3 d3 ∧ R H x4 d4 := by
  obtain ⟨a, vs, e, hs, hl, hr⟩ := h
  match vs, hl with
  | [x0, x1, x2, x3, x4], _ => exact ⟨a, x0, x1, x2, x3, x4, e, hs, hr 0 _ _ rfl rfl, hr 1 _ _ rfl rfl, hr 2 _ _ rfl rfl, hr 3 _ _ rfl rfl, hr 4 _ _ rfl rfl⟩
theorem RSeq.lt {α : Type} {R : Rep α} {b : Bool} {v : V} {ds : List α} (h : RSeq b K R H v ds) : ∃ a vs, v = .ref a ∧ Sq b K H a vs ∧ vs.length = ds.length ∧ ∀ (i : Nat) y x, vs[i]? = some y → ds[i]? = some x → R H y x := h
/-- cuts of lists -/
theorem cutV_fromto {xs : List V} {a b : Nat} (h : a ≤ b) (hb : b ≤ xs.length) : cutV xs (some (a : Int)) (some (b : Int)) = (xs.drop a).take (b - a) := by
  unfold cutV
  rw [HT.sIx_nat, HT.sIx_nat, Nat.min_eq_left hb, Nat.min_eq_left (Nat.le_trans h hb)]
theorem cutV_upto {xs : List V} {b : Nat} (hb : b ≤ xs.length) : cutV xs none (some (b : Int)) = xs.take b := by
  unfold cutV
  rw [HT.sIx_none, HT.sIx_nat, Nat.min_eq_left hb, List.drop_zero, Nat.sub_zero]
theorem cutV_from {xs : List V} {a : Nat} (ha : a ≤ xs.length) : cutV xs (some (a : Int)) none = xs.drop a := by
  unfold cutV
  rw [HT.sIx_none, HT.sIx_nat, Nat.min_eq_left ha, List.take_of_length_le (by rw [List.length_drop]; omega)]
theorem w_slC {a : Addr} {xs ys : List V} {lo hi : Option Int} {Q : VK} (h : Sq true K H a xs) (e : cutV xs lo hi = ys) (q : ∀ p, H p = none → Q (.ref p) (L2.upd H p (.lst ys))) : rSlG K (.ref a) lo hi H Q :=
  .inl ⟨a, xs, rfl, h, fun p hp => by rw [e]; exact q p hp⟩
theorem cutV_int {xs : List V} {a b : Int} (h0 : 0 ≤ a) (h : a ≤ b) (hb : b ≤ xs.length) : cutV xs (some a) (some b) = (xs.drop a.toNat).take (b.toNat - a.toNat) := by
  obtain ⟨n, rfl⟩ := Int.eq_ofNat_of_zero_le h0
  obtain ⟨m, rfl⟩ := Int.eq_ofNat_of_zero_le (Int.le_trans h0 h)
  rw [Int.toNat_natCast, Int.toNat_natCast]
  exact cutV_fromto (by omega) (by omega)
theorem cutV_intTo {xs : List V} {b : Int} (h0 : 0 ≤ b) (hb : b ≤ xs.length) : cutV xs none (some b) = xs.take b.toNat := by
  obtain ⟨m, rfl⟩ := Int.eq_ofNat_of_zero_le h0
  rw [Int.toNat_natCast]
  exact cutV_upto (by omega)
/-- a cut of a list or of a tuple -/
theorem w_slAny {b : Bool} {a : Addr} {xs ys : List V} {lo hi : Option Int} {Q : VK} (h : Sq b K H a xs) (e : cutV xs lo hi = ys) (q : ∀ p H', Same H H' → Sq b K H' p ys → Q (.ref p) H') : rSlG K (.ref a) lo hi H Q := by
  cases b with
  | true => exact .inl ⟨a, xs, rfl, h, fun p hp => q _ _ (Same.new hp) (Sq.lst (by rw [upd_same, e]))⟩
  | false =>
    refine .inr ⟨a, xs, rfl, h, fun hw => ?_, fun _ p hp => q _ _ (Same.new hp) (Sq.tup (by rw [upd_same, e]))⟩
    have e2 : xs = ys := by
      rw [← e]
      unfold cutV
      rw [hw.1, hw.2, List.drop_zero, Nat.sub_zero, List.take_length]
    exact q _ _ (Same.refl _) (e2 ▸ h)
theorem rep_cut {α : Type} {R : Rep α} {vs : List V} {xs : List α} (hr : ∀ (i : Nat) y x, vs[i]? = some y → xs[i]? = some x → R H y x) (a n : Nat) : ∀ (i : Nat) y x, ((vs.drop a).take n)[i]? = some y → ((xs.drop a).take n)[i]? = some x → R H y x := fun i y x h1 h2 => by
  rw [List.getElem?_take] at h1 h2
  split at h1
  · rw [if_pos (by assumption), List.getElem?_drop] at h2
    rw [List.getElem?_drop] at h1
    exact hr _ _ _ h1 h2
  · cases h1
theorem rep_to {α : Type} {R : Rep α} {vs : List V} {xs : List α} (hr : ∀ (i : Nat) y x, vs[i]? = some y → xs[i]? = some x → R H y x) (n : Nat) : ∀ (i : Nat) y x, (vs.take n)[i]? = some y → (xs.take n)[i]? = some x → R H y x := rep_cut hr 0 n
/-- adding two lists -/
theorem w_catLL {l b : Addr} {xs zs : List V} {Q : VK} (h1 : H l = some (.lst xs)) (h2 : H b = some (.lst zs)) (hz : xs.length + zs.length ≤ sizeLine) (q : ∀ p, H p = none → Q (.ref p) (L2.upd H p (.lst (xs ++ zs)))) : rAddG K (.ref l) (.ref b) H Q :=
  .inr (.inr ⟨l, b, xs, zs, rfl, rfl, h1, h2, hz, q⟩)
end
end L2

namespace L2
open PySem PySem.Spec PyProof.Rows
/-! ### data without lists, equal to itself -/
mutual
theorem eqv_refl : ∀ d : PyData, d.canLay0 = true → PyData.eqv d d = true
  | .none, _ => by simp only [PyData.eqv]
  | .bool b, _ => by simp only [PyData.eqv, beq_self_eq_true]
  | .int i, _ => by simp only [PyData.eqv, beq_self_eq_true]
  | .str x, _ => by simp only [PyData.eqv, beq_self_eq_true]
  | .list xs, h => by
    simp only [PyData.eqv]
    exact eqvAll_refl xs (by simpa only [PyData.canLay0] using h)
  | .tuple xs, h => by
    simp only [PyData.eqv]
    exact eqvAll_refl xs (by simpa only [PyData.canLay0] using h)
  | .dict _, h => by simp only [PyData.canLay0] at h; cases h
theorem eqvAll_refl : ∀ ds : List PyData, PyData.canLayAll0 ds = true → PyData.eqvAll ds ds = true
  | [], _ => by simp only [PyData.eqvAll]
  | d :: r, h => by
    simp only [PyData.canLayAll0, Bool.and_eq_true] at h
    simp only [PyData.eqvAll, eqv_refl d h.1, eqvAll_refl r h.2, Bool.and_self]
end
/-- data of a kind: as PyData, laid, no deeper than n -/
structure Dat {α : Type} (K : PySem.W.Frag) (R : Rep α) (f : α → PyData) (n : Nat) : Prop where
  dp : ∀ H v d, R H v d → Dp K H v (f d)
  lay : ∀ d, (f d).canLay0 = true
  deep : ∀ d, (f d).depth ≤ n
theorem canLayAll_map {α : Type} {f : α → PyData} (h : ∀ d, (f d).canLay0 = true) : ∀ ds : List α, PyData.canLayAll0 (ds.map f) = true
  | [] => by simp only [List.map_nil, PyData.canLayAll0]
  | d :: r => by simp only [List.map_cons, PyData.canLayAll0, h d, canLayAll_map h r, Bool.and_self]
theorem depthAll_map {α : Type} {f : α → PyData} {n : Nat} (h : ∀ d, (f d).depth ≤ n) : ∀ ds : List α, PyData.depthAll (ds.map f) ≤ n
  | [] => by simp only [List.map_nil, PyData.depthAll]; exact Nat.zero_le _
  | d :: r => by
    simp only [List.map_cons, PyData.depthAll]
    exact Nat.max_le.mpr ⟨h d, depthAll_map h r⟩
theorem dpAll_map {α : Type} {K : PySem.W.Frag} {R : Rep α} {f : α → PyData} {H : Hp} (h : ∀ v d, R H v d → Dp K H v (f d)) : ∀ {vs : List V} {ds : List α}, vs.length = ds.length → (∀ (i : Nat) y x, vs[i]? = some y → ds[i]? = some x → R H y x) → DpAll K H vs (ds.map f)
  | [], [], _, _ => .nil
  | v :: vs, d :: ds, hl, hr => .cons (h v d (hr 0 v d rfl rfl)) (dpAll_map h (by simpa using hl) fun i y x h1 h2 => hr (i + 1) y x (by simpa using h1) (by simpa using h2))
theorem Dat.seq {α : Type} {K : PySem.W.Frag} {R : Rep α} {f : α → PyData} {n : Nat} (h : Dat K R f n) : Dat K (RSeq false K R) (fun ds => .tuple (ds.map f)) (n + 1) where
  dp := fun H v ds ⟨a, vs, e, hs, hl, hr⟩ => by subst e; exact .tup hs (dpAll_map (h.dp H) hl hr)
  lay := fun ds => by simp only [PyData.canLay0]; exact canLayAll_map h.lay ds
  deep := fun ds => by simp only [PyData.depth]; exact Nat.succ_le_succ (depthAll_map h.deep ds)
theorem Dat.vec {K : PySem.W.Frag} : Dat K (RVec false K) (fun ns => .tuple (ns.map PyData.int)) 1 where
  dp := fun H v ns ⟨a, e, hs⟩ => by subst e; exact .tup hs dpAll_ints
  lay := fun ns => by simp only [PyData.canLay0]; exact canLay_ints ns
  deep := fun ns => by simp only [PyData.depth, depth_ints]; exact Nat.le_refl _
theorem Dat.pair {α β : Type} {K : PySem.W.Frag} {R : Rep α} {S : Rep β} {f : α → PyData} {g : β → PyData} {n : Nat} (h : Dat K R f n) (h' : Dat K S g n) : Dat K (RPair K R S) (fun p => .tuple [f p.1, g p.2]) (n + 1) where
  dp := fun H v p ⟨a, x, y, e, hs, h1, h2⟩ => by subst e; exact .tup hs (.cons (h.dp _ _ _ h1) (.cons (h'.dp _ _ _ h2) .nil))
  lay := fun p => by simp only [PyData.canLay0, PyData.canLayAll0, h.lay, h'.lay, Bool.and_self]
  deep := fun p => by
    simp only [PyData.depth, PyData.depthAll]
    exact Nat.succ_le_succ (Nat.max_le.mpr ⟨h.deep _, Nat.max_le.mpr ⟨h'.deep _, Nat.zero_le _⟩⟩)
theorem Dat.up {α : Type} {K : PySem.W.Frag} {R : Rep α} {f : α → PyData} {n m : Nat} (h : Dat K R f n) (hm : n ≤ m) : Dat K R f m := ⟨h.dp, h.lay, fun d => Nat.le_trans (h.deep d) hm⟩
theorem Dat.shaped {α : Type} {K : PySem.W.Frag} {R : Rep α} {f : α → PyData} {n : Nat} (h : Dat K R f n) (hn : n ≤ 64) (d : α) : SeqAt.shaped (f d) = true := by
  unfold SeqAt.shaped
  rw [h.lay, decide_eq_true (Nat.le_trans (h.deep d) hn)]
  rfl
theorem w_neSame {α : Type} {K : PySem.W.Frag} {H : Hp} {Q : VK} {R : Rep α} {f : α → PyData} {n : Nat} (h : Dat K R f n) (hn : n ≤ 64) {x y : V} {d : α} (hx : R H x d) (hy : R H y d) (q : Q (.bl false) H) : rNeG K x y H Q :=
  w_neD (h.dp _ _ _ hx) (h.dp _ _ _ hy) (h.shaped hn d) (h.shaped hn d) (by rw [eqv_refl _ (h.lay d)]; exact q)
theorem w_eqSame {α : Type} {K : PySem.W.Frag} {H : Hp} {Q : VK} {R : Rep α} {f : α → PyData} {n : Nat} (h : Dat K R f n) (hn : n ≤ 64) {x y : V} {d : α} (hx : R H x d) (hy : R H y d) (q : Q (.bl true) H) : rEqG K x y H Q :=
  w_eqD (h.dp _ _ _ hx) (h.dp _ _ _ hy) (h.shaped hn d) (h.shaped hn d) (by rw [eqv_refl _ (h.lay d)]; exact q)
theorem sIx_neg (n d : Nat) : HT.sIx n d (some (-1)) = n - 1 := by
  show (if (-1 : Int) < 0 then ((-1 : Int) + (n : Int)).toNat else min (-1 : Int).toNat n) = n - 1
  rw [if_pos (by decide)]
  omega
theorem cutV_neg {xs : List V} : cutV xs none (some (-1)) = xs.take (xs.length - 1) := by
  unfold cutV
  rw [HT.sIx_none, sIx_neg, List.drop_zero, Nat.sub_zero]
theorem cutV_negFrom {xs : List V} : cutV xs (some (-1)) none = xs.drop (xs.length - 1) := by
  unfold cutV
  rw [HT.sIx_none, sIx_neg, List.take_of_length_le (by rw [List.length_drop]; omega)]
end L2

namespace L2
open PySem PySem.Spec PyProof.Rows
/-! ### the rules that name the written part, K said (within a comprehension's block it is told by rfl) -/
section
variable {X : Cx} {K : PySem.W.Frag} {a b : Expr} {ta tb : TE} {pos : Pos}
theorem k_addG (h : X.K = K) : OpR X (binaryOp .Add) (rAddG K) := h ▸ op_addG
theorem k_eqG (h : X.K = K) (hu : X.A.units + 64 < cLine) : OpR X (compareOp .Eq) (rEqG K) := h ▸ op_eqG hu
theorem k_neG (h : X.K = K) (hu : X.A.units + 64 < cLine) : OpR X (compareOp .NotEq) (rNeG K) := h ▸ op_neG hu
theorem k_inS (h : X.K = K) : OpR X (compareOp .In) (rIn K false) := h ▸ op_in_seq
theorem k_notInS (h : X.K = K) : OpR X (compareOp .NotIn) (rIn K true) := h ▸ op_notIn_seq
theorem k_slG (h : X.K = K) : SlR X (rSlG K) := h ▸ sl_seqG
theorem k_ix (h : X.K = K) : IxR X (rIx K) := h ▸ ix_seq
theorem k_sumS (h : X.K = K) (hc : X.calm = true) : CallR X (.builtin "sum") (rSumS K) := h ▸ cr_sumS hc
theorem k_lenS (h : X.K = K) : CallR X (.builtin "len") (rLenS K) := h ▸ cr_lenS
theorem k_listS (h : X.K = K) : CallR X (.type "list") (rListS K) := h ▸ cr_listS
theorem k_tupS (h : X.K = K) : CallR X (.type "tuple") (rTupS K) := h ▸ cr_tupS
theorem k_isi (h : X.K = K) : CallR X (.builtin "isinstance") (rIsi K) := h ▸ call_isi
theorem k_max (h : X.K = K) (hc : X.calm = true) : CallR X (.builtin "max") (rMax K) := h ▸ cr_max hc
theorem k_min (h : X.K = K) (hc : X.calm = true) : CallR X (.builtin "min") (rMin K) := h ▸ cr_min hc
theorem k_index (h : X.K = K) : MtR X "list.index" (rIndex K) := h ▸ mt_index
theorem k_tru {e : Expr} {te : TE} (h : X.K = K) (he : PE X e te) (hi : ∀ whole, isTrue e X.env whole = (do let v ← whole; standAt e.pos; holding [v] (truthy v))) : PT X e (tTru K te) := h ▸ pt_tru he hi
theorem k_fld {e : Expr} {f : Str} (h : X.K = K) (he : PE X e ta) (hb : attributeBase e f X.env (eval e X.env) = eval e X.env) : PE X (.Attribute e f pos) (tFld K ta f) := h ▸ pe_fld he hb
theorem k_sfld {o value : Expr} {f : Str} {pos' : Pos} {tv : TE} (h : X.K = K) (ha : PE X o ta) (hv : PE X value tv) (hs : swapsWith value (some (.Attribute o f pos')) pos.line X.env = pure false) : PS X (.Assign [.Attribute o f pos'] value pos) (sFld K ta tv f) := h ▸ ps_fld ha hv hs
theorem k_tup {es : List Expr} {kk : Nat} {t : TGs} {n : Nat} (h : X.K = K) (hc : X.calm = true) (hg : PGs X es t) (hn : (assignEach es X.env).length = n := by rfl) (hst : (assignEach es X.env).findIdx? (·.1) = none := by rfl) :
    PG X (.Tuple es kk pos) (gTup K n t) := h ▸ pg_tup hc hg hn hst
theorem k_seqS {tg l : Expr} {tl : TE} (h : X.K = K) (hl : PE X l tl) : PI X tg l (iSeq K tl) := h ▸ pi_seqS hl
theorem k_enumS {e : Expr} {ta : TA} {p pos tpos : Pos} {elts : List Expr} {kk : Nat} (h : X.K = K) (hg : Gl X "enumerate") (hm : X.mg "enumerate" = none) (ha : PA X [e] ta) (hs : starEach [e] X.env = [(false, eval e X.env)] := by rfl) :
    PI X (.Tuple elts kk tpos) (.Call (.Name "enumerate" p) [e] [] pos) (iEnumS K ta) := h ▸ pi_enumS hg hm ha hs
theorem k_zipS {e e2 : Expr} {ta : TA} {p pos tpos : Pos} {elts : List Expr} {kk : Nat} (h : X.K = K) (hg : Gl X "zip") (hm : X.mg "zip" = none) (ha : PA X [e, e2] ta)
    (hs : starEach [e, e2] X.env = (false, eval e X.env) :: starEach [e2] X.env := by rfl) (hpl : (backTo pos (starEach [e2] X.env)).any (·.1) = false := by rfl) :
    PI X (.Tuple elts kk tpos) (.Call (.Name "zip" p) [e, e2] [] pos) (iZipS K ta) := h ▸ pi_zipS hg hm ha hs hpl
theorem k_bm {o e : Expr} {es : List Expr} {to : TE} {t : TA} {name : Str} {apos cpos : Pos} {T id : String} {r : V → List V → Hp → VK → Prop} (h : X.K = K)
    (pa : PlainAttrs T) (slot : Slot T name id) (hty : typeOf (.builtin id) = pure (.type "method_descriptor")) (hm : MtR X id r) (ho : PE X o to) (ha : PA X (e :: es) t)
    (hbase : attributeBase o name X.env (eval o X.env) = eval o X.env := by rfl)
    (hfew : ((backTo cpos (starEach (e :: es) X.env)).all (fun x => !x.1) && (backToKw cpos (keywordEach [] X.env)).all (fun x => x.1.isSome)
      && decide ((e :: es).length + ([] : List Keyword).length + (if ([] : List Keyword).isEmpty then 0 else 1) < 30)) = true := by rfl)
    (hline : (apos.endLine == cpos.line) = true := by rfl) (hs : starEach (e :: es) X.env = (false, eval e X.env) :: starEach es X.env := by rfl) (hplain : (backTo cpos (starEach es X.env)).any (·.1) = false := by rfl) :
    PE X (.Call (.Attribute o name apos) (e :: es) [] cpos) (tBM K T r to t) := h ▸ pe_bm pa slot hty hm ho ha hbase hfew hline hs hplain
end
end L2

namespace L2
open PySem PySem.Spec PyProof.Rows
/-! ### dicts with texts as keys: read, written, made -/
theorem u1 {n : Nat} (h : n + 64 < cLine) : n + 1 < cLine := by omega
section
variable {K : PySem.W.Frag} {σ : St} {H : Hp} {v : V} {Q : VK} {td ty tv : TE} {a : Addr} {kvs kvs' : List (Key × V)} {s : Str}
theorem w_dget (q : td σ H fun x H1 => ty σ H1 fun y H2 => ∃ a v, x = .ref a ∧ DGet H2 a y (some v) ∧ Q v H2) : tDGet td ty σ H Q := q
theorem w_dgetAt (h : H a = some (.dK kvs)) (l : valV kvs (.inr s) = some v) {F : V → Prop} (q : F v) : ∃ a' v', V.ref a = .ref a' ∧ DGet H a' (.str s) (some v') ∧ F v' := ⟨a, v, rfl, by rw [← l]; exact DGet.k (k := .inr s) h, q⟩
theorem w_dput {nx b' c' : St → Hp → Prop} {rt : VK} (q : tv σ H fun v H1 => td σ H1 fun x H2 => ty σ H2 fun y H3 => ∃ a H4, x = .ref a ∧ DPut H3 a y v H4 ∧ nx σ H4) : sDPut td ty tv ⟨nx, rt, b', c'⟩ σ H := q
theorem w_dputAt (h : H a = some (.dK kvs)) (hl : kvs.length < 1000) (e : putK kvs (.inr s) v = kvs') {F : Hp → Prop} (q : F (upd H a (.dK kvs'))) : ∃ a' H4, V.ref a = .ref a' ∧ DPut H a' (.str s) v H4 ∧ F H4 :=
  ⟨a, _, rfl, DPut.k (k := .inr s) h (by rw [sizeLine_eq]; omega), by rw [e]; exact q⟩
theorem w_disp {trs : List (TE × TE)} (q : ∀ p, H p = none → tPairs trs σ (upd H p (.dK [])) fun ps H2 => H2 p = some (.dK []) ∧ ∃ kvs : List (Key × V), ps = kvs.map (fun kv => (kV kv.1, kv.2)) ∧ kvs.length ≤ 15 ∧ Q (.ref p) (upd H2 p (.dK (mergeK [] kvs)))) : tDisp trs σ H Q := q
theorem w_pair0 {Qp : List (V × V) → Hp → Prop} (q : Qp [] H) : tPairs [] σ H Qp := q
theorem w_pair1 {Qp : List (V × V) → Hp → Prop} {tk tv : TE} {r : List (TE × TE)} (q : tk σ H fun x H1 => tv σ H1 fun y H2 => tPairs r σ H2 fun ps H3 => Qp ((x, y) :: ps) H3) : tPairs ((tk, tv) :: r) σ H Qp := q
end
/-- what stands elsewhere than at t stays -/
def Fr (t : Addr) (H H' : Hp) : Prop := ∀ b o, b ≠ t → H b = some o → H' b = some o
theorem Fr.refl (t : Addr) (H : Hp) : Fr t H H := fun _ _ _ e => e
theorem Fr.trans {t : Addr} {H H' H'' : Hp} (h : Fr t H H') (h' : Fr t H' H'') : Fr t H H'' := fun b o n e => h' b o n (h b o n e)
theorem Fr.upd {t : Addr} {H H' : Hp} (h : Fr t H H') (o : HO) : Fr t H (upd H' t o) := fun b u n e => by
  rw [upd_ne n]
  exact h b u n e
theorem Fr.same {t : Addr} {H H' : Hp} (h : Same H H') : Fr t H H' := fun b o _ e => h b o e
theorem Fr.sq {t : Addr} {H H' : Hp} {b : Bool} {K : PySem.W.Frag} {a : Addr} {xs : List V} (f : Fr t H H') (ht : ∃ kvs, H t = some (.dK kvs)) (h : Sq b K H a xs) : Sq b K H' a xs := by
  obtain ⟨kvs, ht⟩ := ht
  cases b with
  | true =>
    have h : SqL K H a xs := h
    rcases h with (h | ⟨o, h⟩) | h
    · exact .inl (.inl (f _ _ (fun e => by rw [e, ht] at h; cases h) h))
    · exact .inl (.inr ⟨o, f _ _ (fun e => by rw [e, ht] at h; cases h) h⟩)
    · exact .inr h
  | false =>
    have h : SqT K H a xs := h
    rcases h with (h | ⟨o, h⟩) | h
    · exact .inl (.inl (f _ _ (fun e => by rw [e, ht] at h; cases h) h))
    · exact .inl (.inr ⟨o, f _ _ (fun e => by rw [e, ht] at h; cases h) h⟩)
    · exact .inr h
/-- the tape: its cells, place, great number, how many left, seed, turn -/
def tapeF (l : Addr) (at_ gr le se tu : Int) : List (Key × V) := [(.inr "cells", .ref l), (.inr "at", .int at_), (.inr "great", .int gr), (.inr "left", .int le), (.inr "seed", .int se), (.inr "turn", .int tu)]
def IsTape (H : Hp) (t l : Addr) : Prop := ∃ (cs : List Int) (at_ gr le se tu : Int), H t = some (.dK (tapeF l at_ gr le se tu)) ∧ H l = some (.lst (cs.map V.int)) ∧ 0 ≤ at_
theorem IsTape.same {H H' : Hp} {t l : Addr} (s : Same H H') (h : IsTape H t l) : IsTape H' t l := by
  obtain ⟨cs, a, b, c, d, e, h1, h2, h3⟩ := h
  exact ⟨cs, a, b, c, d, e, s _ _ h1, s _ _ h2, h3⟩
theorem IsTape.upd {H : Hp} {t l D : Addr} {o : HO} (h1 : D ≠ t) (h2 : D ≠ l) (h : IsTape H t l) : IsTape (upd H D o) t l := by
  obtain ⟨cs, a, b, c, d, e, g1, g2, g3⟩ := h
  exact ⟨cs, a, b, c, d, e, (upd_ne (Ne.symm h1)).trans g1, (upd_ne (Ne.symm h2)).trans g2, g3⟩
theorem val_neg {j k : Key} {u : V} {kvs : List (Key × V)} (h : ¬ j = k) : valV ((j, u) :: kvs) k = valV kvs k := valV_neg h
theorem val_pos {k : Key} {u : V} {kvs : List (Key × V)} : valV ((k, u) :: kvs) k = some u := valV_pos rfl
theorem tape_cells {l : Addr} {at_ gr le se tu : Int} : valV (tapeF l at_ gr le se tu) (.inr "cells") = some (.ref l) := val_pos
theorem tape_at {l : Addr} {at_ gr le se tu : Int} : valV (tapeF l at_ gr le se tu) (.inr "at") = some (.int at_) := (val_neg (by decide +kernel)).trans val_pos
theorem tape_great {l : Addr} {at_ gr le se tu : Int} : valV (tapeF l at_ gr le se tu) (.inr "great") = some (.int gr) := (val_neg (by decide +kernel)).trans ((val_neg (by decide +kernel)).trans val_pos)
theorem tape_left {l : Addr} {at_ gr le se tu : Int} : valV (tapeF l at_ gr le se tu) (.inr "left") = some (.int le) := (val_neg (by decide +kernel)).trans ((val_neg (by decide +kernel)).trans ((val_neg (by decide +kernel)).trans val_pos))
theorem tape_seed {l : Addr} {at_ gr le se tu : Int} : valV (tapeF l at_ gr le se tu) (.inr "seed") = some (.int se) := (val_neg (by decide +kernel)).trans ((val_neg (by decide +kernel)).trans ((val_neg (by decide +kernel)).trans ((val_neg (by decide +kernel)).trans val_pos)))
theorem tape_turn {l : Addr} {at_ gr le se tu : Int} : valV (tapeF l at_ gr le se tu) (.inr "turn") = some (.int tu) := (val_neg (by decide +kernel)).trans ((val_neg (by decide +kernel)).trans ((val_neg (by decide +kernel)).trans ((val_neg (by decide +kernel)).trans ((val_neg (by decide +kernel)).trans val_pos))))
/-- a store at a key that is there -/
def replK (kvs : List (Key × V)) (k : Key) (v : V) : List (Key × V) := kvs.map fun kv => if kv.1 = k then (kv.1, v) else kv
theorem putK_repl {kvs : List (Key × V)} {k : Key} {v u : V} (h : valV kvs k = some u) : putK kvs k v = replK kvs k v := by
  unfold putK
  rw [valV_any, h]
  rfl
theorem repl_pos {kvs : List (Key × V)} {k : Key} {v u : V} : replK ((k, u) :: kvs) k v = (k, v) :: replK kvs k v := by
  show (if k = k then _ else _) :: _ = _
  rw [if_pos rfl]; rfl
theorem repl_neg {kvs : List (Key × V)} {k j : Key} {v u : V} (h : ¬ j = k) : replK ((j, u) :: kvs) k v = (j, u) :: replK kvs k v := by
  show (if j = k then _ else _) :: _ = _
  rw [if_neg h]; rfl
theorem tape_setAt {l : Addr} {at_ gr le se tu z : Int} : putK (tapeF l at_ gr le se tu) (.inr "at") (.int z) = tapeF l z gr le se tu := by
  rw [putK_repl tape_at]; unfold tapeF
  rw [repl_neg (by decide +kernel), repl_pos, repl_neg (by decide +kernel), repl_neg (by decide +kernel), repl_neg (by decide +kernel), repl_neg (by decide +kernel)]; rfl
theorem tape_setGreat {l : Addr} {at_ gr le se tu z : Int} : putK (tapeF l at_ gr le se tu) (.inr "great") (.int z) = tapeF l at_ z le se tu := by
  rw [putK_repl tape_great]; unfold tapeF
  rw [repl_neg (by decide +kernel), repl_neg (by decide +kernel), repl_pos, repl_neg (by decide +kernel), repl_neg (by decide +kernel), repl_neg (by decide +kernel)]; rfl
theorem tape_setLeft {l : Addr} {at_ gr le se tu z : Int} : putK (tapeF l at_ gr le se tu) (.inr "left") (.int z) = tapeF l at_ gr z se tu := by
  rw [putK_repl tape_left]; unfold tapeF
  rw [repl_neg (by decide +kernel), repl_neg (by decide +kernel), repl_neg (by decide +kernel), repl_pos, repl_neg (by decide +kernel), repl_neg (by decide +kernel)]; rfl
theorem tape_setSeed {l : Addr} {at_ gr le se tu z : Int} : putK (tapeF l at_ gr le se tu) (.inr "seed") (.int z) = tapeF l at_ gr le z tu := by
  rw [putK_repl tape_seed]; unfold tapeF
  rw [repl_neg (by decide +kernel), repl_neg (by decide +kernel), repl_neg (by decide +kernel), repl_neg (by decide +kernel), repl_pos, repl_neg (by decide +kernel)]; rfl
theorem tape_setTurn {l : Addr} {at_ gr le se tu z : Int} : putK (tapeF l at_ gr le se tu) (.inr "turn") (.int z) = tapeF l at_ gr le se z := by
  rw [putK_repl tape_turn]; unfold tapeF
  rw [repl_neg (by decide +kernel), repl_neg (by decide +kernel), repl_neg (by decide +kernel), repl_neg (by decide +kernel), repl_neg (by decide +kernel), repl_pos]; rfl
theorem tape_len {l : Addr} {at_ gr le se tu : Int} : (tapeF l at_ gr le se tu).length < 1000 := by show 6 < 1000; omega
end L2

namespace L2
open PySem PySem.Spec PyProof.Rows
/-! ### o[i] += e in lists; comprehensions with any state, with or without a test -/
def rGetL : V → V → Hp → VK → Prop := fun o i H Q => ∃ p xs k x, o = .ref p ∧ i = .int k ∧ 0 ≤ k ∧ H p = some (.lst xs) ∧ xs[k.toNat]? = some x ∧ Q x H
theorem get_list {X : Cx} : PGet X rGetL := by
  intro pins s σ H o i ov iv Q I ro ri h
  obtain ⟨p, xs, k, x, rfl, rfl, h0, hp, hx, q⟩ := h
  cases ro
  obtain ⟨t, rfl⟩ := ri
  obtain ⟨its, r, pl, hz⟩ := I.list (SqL.of hp)
  obtain ⟨w, ew, rw'⟩ := r.get hx
  have h1 := (List.getElem?_eq_some_iff.mp hx).1
  rw [sizeLine_eq] at hz
  exact wpAny_getItem_list pl.isList h0 (by omega) (by simpa using ew) ⟨x, H, I, rw', q⟩
section
variable {K : PySem.W.Frag} {σ : St} {H : Hp} {tt : TT} {te : TE} {g : TG} {vs : List Nat} {Q : VK}
theorem w_augS {to ti te : TE} {tget : V → V → Hp → VK → Prop} {tip : TIp} {tset : TSet} {nx b' c' : St → Hp → Prop} {rt : VK} (q : to σ H fun o H1 => ti σ H1 fun i H2 => tget o i H2 fun x H3 => te σ H3 fun y H4 => tip x y H4 fun z H5 => tset o i z H5 fun H6 => nx σ H6) : tAugS to ti te tget tip tset ⟨nx, rt, b', c'⟩ σ H := q
theorem w_prop {C : Addr} {sp : Sp} {dvs : List V} {E : XK} {ta : TE} (q : ta σ H fun x H1 => ∃ a dx fs, x = .ref a ∧ H1 a = some (.ins C dx fs) ∧ sp (.ref a :: dvs) H1 Q E) : tProp C sp dvs E ta σ H Q := q
theorem w_propAt {p C dx : Addr} {fs : List (Str × V)} {F : Addr → Prop} (h : H p = some (.ins C dx fs)) (q : F p) : ∃ a dx fs, V.ref p = .ref a ∧ H a = some (.ins C dx fs) ∧ F a := ⟨p, dx, fs, rfl, h, q⟩
theorem w_lstRg {t : L2.St → Hp → (Int → Int → Hp → Prop) → Prop} (q : t σ H fun a b H1 => RgOk a b ∧ ∀ q, H1 q = none → Q (.ref q) (upd H1 q (.lst (rgV a b)))) : tLstRg t σ H Q := q
theorem w_tupRg {t : L2.St → Hp → (Int → Int → Hp → Prop) → Prop} (q : t σ H fun a b H1 => RgOk a b ∧ ∀ q, H1 q = none → Q (.ref q) (upd H1 q (.tup (rgV a b)))) : tTupRg t σ H Q := q
theorem w_rg1 {ta : TE} {QR : Int → Int → Hp → Prop} (q : ta σ H fun x H1 => ∃ n, x = .int n ∧ QR 0 n H1) : tRg1 ta σ H QR := q
theorem w_rg2 {ta tb : TE} {QR : Int → Int → Hp → Prop} (q : ta σ H fun x H1 => tb σ H1 fun y H2 => ∃ i j, x = .int i ∧ y = .int j ∧ QR i j H2) : tRg2 ta tb σ H QR := q
theorem w_getI {p : Addr} {ns : List Int} {k : Int} (h : H p = some (.lst (ns.map V.int))) (h0 : 0 ≤ k) (h1 : k < ns.length) (q : Q (.int (nth ns k)) H) : rGetL (.ref p) (.int k) H Q := by
  refine ⟨p, _, k, .int (nth ns k), rfl, rfl, h0, h, ?_, q⟩
  have e : k = ((k.toNat : Nat) : Int) := (Int.toNat_of_nonneg h0).symm
  rw [vec_get (ns := ns) (i := k.toNat) (by omega), ← e]
theorem l_compG {J : It} {n : Nat} {G : Hp → Prop} {Y : Nat → Hp → V → Hp → Prop} (w : Walk J n G Y) (hz : n < sizeLine) (Sv : Addr → Nat → List V → Hp → Prop) (h0 : ∀ D, H D = none → Sv D 0 [] (upd H D (.lst []))) (hG : ∀ D i acc H', Sv D i acc H' → G H')
    (hs : ∀ i x H1 H2 D acc (NT : VK) (NF : Hp → Prop), i < n → H D = none → Sv D i acc H1 → H1 D = some (.lst acc) → acc.length ≤ i → Y i H1 x H2 → (∀ y H5, H5 D = some (.lst acc) → Sv D (i + 1) (acc ++ [y]) (upd H5 D (.lst (acc ++ [y]))) → NT y H5) →
      (∀ H4, H4 D = some (.lst acc) → Sv D (i + 1) acc H4 → NF H4) → g x (wipe σ vs) H2 fun σ2 H3 => wipe σ2 vs = wipe σ vs ∧ tt σ2 H3 fun b H4 => if b = true then te σ2 H4 NT else NF H4)
    (k : ∀ D H' ys, H D = none → Sv D n ys H' → H' D = some (.lst ys) → ys.length ≤ n → Q (.ref D) H') : CompOk J g tt te vs σ H Q := by
  intro D hD
  refine lc_it w (fun i H' => ∃ acc, H' D = some (.lst acc) ∧ acc.length ≤ i ∧ Sv D i acc H') ⟨[], upd_same, Nat.le_refl _, h0 D hD⟩ (fun i H' _ ⟨acc, _, _, h⟩ => hG D i acc H' h) ?_ ?_
  · rintro i x H1 H2 hi ⟨acc, e, hl, st⟩ hy
    exact hs i x H1 H2 D acc _ _ hi hD st e hl hy (fun y H5 e5 s5 => ⟨acc, e5, Nat.lt_of_le_of_lt hl (Nat.lt_trans hi hz), acc ++ [y], upd_same, by rw [List.length_append, List.length_singleton]; omega, s5⟩) (fun H4 e4 s4 => ⟨acc, e4, by omega, s4⟩)
  · rintro H' ⟨acc, e, hl, st⟩
    exact k D H' acc hD st e hl
/-- for .. in range(n), of any state -/
theorem l_compGR {n : Int} {j : Nat} (h1 : -(2 ^ 62) ≤ n) (h2 : n < 16000000) (Sv : Addr → Nat → List V → Hp → Prop) (hw : ∀ x : V, wipe ((wipe σ vs).set j (some x)) vs = wipe σ vs) (h0 : ∀ D, H D = none → Sv D 0 [] (upd H D (.lst [])))
    (hs : ∀ (i : Nat) H1 D acc (NT : VK) (NF : Hp → Prop), (i : Int) < n → H D = none → Sv D i acc H1 → H1 D = some (.lst acc) → acc.length ≤ i → (∀ y H5, H5 D = some (.lst acc) → Sv D (i + 1) (acc ++ [y]) (upd H5 D (.lst (acc ++ [y]))) → NT y H5) →
      (∀ H4, H4 D = some (.lst acc) → Sv D (i + 1) acc H4 → NF H4) → tt ((wipe σ vs).set j (some (.int (i : Int)))) H1 fun b H4 => if b = true then te ((wipe σ vs).set j (some (.int (i : Int)))) H4 NT else NF H4)
    (k : ∀ D H' ys, H D = none → Sv D n.toNat ys H' → H' D = some (.lst ys) → ys.length ≤ n.toNat → Q (.ref D) H') :
    ∃ j' : Int, [V.int n] = [.int j'] ∧ -(2 ^ 62) ≤ j' ∧ j' < 2 ^ 62 ∧ CompOk (Itr 0 j'.toNat) (gName j) tt te vs σ H Q := by
  refine ⟨n, rfl, h1, by omega, l_compG (walk_range (lo := 0) (n := n.toNat)) (by rw [sizeLine_eq]; omega) Sv h0 (fun _ _ _ _ _ => trivial) (fun i x H1 H2 D acc NT NF hi hD st e1 hl hy hT hF => ?_) k⟩
  obtain ⟨e, ex⟩ := hy
  subst e ex
  show wipe ((wipe σ vs).set j (some (.int (0 + (i : Int))))) vs = wipe σ vs ∧ tt ((wipe σ vs).set j (some (.int (0 + (i : Int))))) _ fun b H4 => if b = true then te ((wipe σ vs).set j (some (.int (0 + (i : Int))))) H4 NT else NF H4
  rw [Int.zero_add]
  exact ⟨hw _, hs i _ D acc NT NF (by omega) hD st e1 hl hT hF⟩
/-- for .. in a list or a tuple, of any state -/
theorem l_compGS {b : Bool} {a : Addr} {j : Nat} (xs : List V) (hz : xs.length < sizeLine) (Sv : Addr → Nat → List V → Hp → Prop) (hx : Sq b K H a xs) (hw : ∀ x : V, wipe ((wipe σ vs).set j (some x)) vs = wipe σ vs) (h0 : ∀ D, H D = none → Sv D 0 [] (upd H D (.lst []))) (hG : ∀ D i acc H', Sv D i acc H' → Sq b K H' a xs)
    (hs : ∀ (i : Nat) x H1 D acc (NT : VK) (NF : Hp → Prop), i < xs.length → xs[i]? = some x → H D = none → Sv D i acc H1 → H1 D = some (.lst acc) → acc.length ≤ i → (∀ y H5, H5 D = some (.lst acc) → Sv D (i + 1) (acc ++ [y]) (upd H5 D (.lst (acc ++ [y]))) → NT y H5) →
      (∀ H4, H4 D = some (.lst acc) → Sv D (i + 1) acc H4 → NF H4) → tt ((wipe σ vs).set j (some x)) H1 fun b H4 => if b = true then te ((wipe σ vs).set j (some x)) H4 NT else NF H4)
    (k : ∀ D H' ys, H D = none → Sv D xs.length ys H' → H' D = some (.lst ys) → ys.length ≤ xs.length → Q (.ref D) H') :
    ∃ a', V.ref a = .ref a' ∧ ((∃ xs, SqL K H a' xs) ∧ CompOk (Itl K a') (gName j) tt te vs σ H Q ∨ (∃ xs, SqT K H a' xs) ∧ CompOk (Itt K a') (gName j) tt te vs σ H Q) := by
  refine ⟨a, rfl, ?_⟩
  cases b with
  | true =>
    refine .inl ⟨⟨xs, hx⟩, l_compG (walk_list (xs := xs)) hz Sv h0 hG (fun i x H1 H2 D acc NT NF hi hD st e1 hl hy hT hF => ?_) k⟩
    obtain ⟨e, ex⟩ := hy
    subst e
    exact ⟨hw _, hs i x _ D acc NT NF hi ex hD st e1 hl hT hF⟩
  | false =>
    refine .inr ⟨⟨xs, hx⟩, l_compG (walk_tup (xs := xs)) hz Sv h0 hG (fun i x H1 H2 D acc NT NF hi hD st e1 hl hy hT hF => ?_) k⟩
    obtain ⟨e, ex⟩ := hy
    subst e
    exact ⟨hw _, hs i x _ D acc NT NF hi ex hD st e1 hl hT hF⟩
end
end L2

namespace PySem.W
open PySem PySem.Calls PyProof.Rows Builtin
/-! ### == and != of instances whose class has its own __eq__ -/
section
variable {prog : Program} {w : World} {A : Around} {E : Value → Shared → Prop} {s : Shared} {K : Frag} {x C L f : Addr} {h₀ : Heap} {m : Str → Option Value} {ox : Obj} {od : Option Obj} {name : Str} {b tb : Value}
theorem ifBound_B {M : Model} {args : List Value} {id : String} {Q : Option Value → Shared → Prop} (X : K.In s.heap) (I : InstAt s.heap x ox C od) (hs : findIn K (.ref C) name = some (some (.builtin id)))
    (hb : ∀ self, bindSpecial (.builtin id) self = pure (.builtin id, [self])) (h : wpAny M A (call (.builtin id) (.ref x :: args)) (fun v => Q (some v)) E s) : wpAny M A (callSpecialIfBound? (.ref x) name args) Q E s := by
  simp only [callSpecialIfBound?, bindSpecialIfBound?]
  refine wpAny_holding (wpAny_bind (wpAny_bind (wpAny_bind (I.type.here ((looks_findIn X hs).here ?_)))))
  refine wpAny_bind (wpAny_askSetting (wpAny_ite ?_))
  have fin : wpAny M A (call (.builtin id) ([.ref x] ++ args) >>= fun v => pure (some v)) Q E s := wpAny_bind (wpAny_mono h (fun v s' h' => wpAny_pure h') fun _ _ h' => h')
  split
  · exact wpAny_bind ((Looks.of_pure (hb _)).here (wpAny_pure (by exact fin)))
  · exact wpAny_tryCatch (wpAny_bind ((Looks.of_pure (hb _)).here (wpAny_pure (by exact fin))))
theorem obj_ne {Q : Value → Shared → Prop} (hu : A.in1.units < cLine) (X : K.In s.heap) (I : InstAt s.heap x ox C od) (hm : mroIn K C (.type "object") = some true) (hs : findIn K (.ref C) "__eq__" = some (some (.ref f))) (hf : isFn K (.ref f) = true)
    (h : wpAny (model prog w) A.in1 (call (.ref f) [.ref x, b]) (fun v s' => ∃ c, v = .bool c ∧ Q (.bool (!c)) s') E s) : wpAny (model prog w) A (call (.builtin "object.__ne__") [.ref x, b]) Q E s := by
  refine wpAny_call (codeAny_call_builtin PySem.F.cmp_object.ne.plain PySem.F.cmpEntry_ne (check_slot PySem.F.cmpKind_ne PySem.F.cmpSplit_ne (I.type.andThen (looks_mroIn X hm)) (PySem.F.cmpArgs_ne _ _) ?_))
  unfold Builtin.«object.__ne__»
  refine wpAny_bind (m := slotArgs "__ne__" 1 _) (wpAny_pure ?_)
  refine wpAny_bind (m := cRoomFor _ _) (wpAny_cRoomFor hu ?_)
  refine wpAny_bind (m := callSpecialIfBound? (.ref x) (Str.ofString "__eq__") _) (ifBound_K X I hs hf (wpAny_mono h (fun r s' hq => ?_) fun _ _ y => y))
  obtain ⟨c, rfl, q⟩ := hq
  refine wpAny_bind (m := truthy (.bool _)) (wpAny_truthy_bool ?_)
  exact wpAny_pure q
theorem ne_own {Q : Value → Shared → Prop} (hu : A.units + 1 < cLine) (F : Fr h₀ L s.heap m) (X₀ : K.In h₀) (I : InstAt s.heap x ox C od) (hb : Looks (model prog w) s.heap (typeOf b) tb) (hn : notFirst K C tb = true)
    (hne : findIn K (.ref C) "__ne__" = some (some (.builtin "object.__ne__"))) (hm : mroIn K C (.type "object") = some true) (hs : findIn K (.ref C) "__eq__" = some (some (.ref f))) (hf : isFn K (.ref f) = true)
    (h : wpAny (model prog w) A.in1 (call (.ref f) [.ref x, b]) (fun v s' => ∃ c, v = .bool c ∧ Q (.bool (!c)) s') E s) : wpAny (model prog w) A (richCompare .NotEq (.ref x) b) Q E s := by
  have X := X₀.keeps F.keep
  have one : wpAny (model prog w) A (tryCompare (.ref x) (cmpInfo .NotEq).2.1 b) (fun r s' => ∃ v, r = some v ∧ Q v s') E s := by
    unfold tryCompare
    refine wpAny_bind (ifBound_B X I hne PySem.F.cmp_object.ne.bind (obj_ne (by show A.units + 1 < _; exact hu) X I hm hs hf (wpAny_mono h (fun v s' hv => ?_) fun _ _ e => e)))
    obtain ⟨c, rfl, q⟩ := hv
    exact ⟨c, rfl, wpAny_pure ⟨_, rfl, q⟩⟩
  unfold richCompare
  simp only [oneThing_ref]
  refine wpAny_holding (wpAny_bind (wpAny_cRoomFor (Nat.lt_of_succ_lt hu) ?_))
  refine wpAny_bind (I.type.here (wpAny_bind (hb.here ?_)))
  split
  · rename_i q
    have e : subIn K tb (.ref C) = some false := by
      rcases Bool.or_eq_true_iff.mp hn with e | e
      · rw [beq_iff_eq.mp e] at q; simp at q
      · exact beq_iff_eq.mp e
    refine wpAny_bind ((looks_subIn X e).here ?_)
    simp only [Bool.false_eq_true, if_false]
    refine wpAny_bind (wpAny_mono one (fun r s' z => ?_) fun _ _ e => e)
    obtain ⟨v, rfl, hq⟩ := z
    exact wpAny_pure hq
  · refine wpAny_bind (wpAny_pure ?_)
    simp only [Bool.false_eq_true, if_false]
    refine wpAny_bind (wpAny_mono one (fun r s' z => ?_) fun _ _ e => e)
    obtain ⟨v, rfl, hq⟩ := z
    exact wpAny_pure hq
end
end PySem.W
namespace L2
open PySem PySem.Spec PyProof.Rows
/-- what a class with its own == says of itself -/
structure EqOf (K : PySem.W.Frag) (C f : Addr) : Prop where
  eq : PySem.W.findIn K (.ref C) "__eq__" = some (some (.ref f))
  fn : PySem.W.isFn K (.ref f) = true
  ne : PySem.W.findIn K (.ref C) "__ne__" = some (some (.builtin "object.__ne__"))
  mro : PySem.W.mroIn K C (.type "object") = some true
/-- x == y, x an instance of the class at C: what its __eq__ (promise sp) answers, a bool -/
def rEqO (K : PySem.W.Frag) (C : Addr) (sp : Sp) : R2 := fun x y H Q => ∃ a dx fs t, x = .ref a ∧ H a = some (.ins C dx fs) ∧ TyX K H y t ∧ PySem.W.notFirst K C t = true ∧ sp [x, y] H (fun v H' => ∃ c, v = .bl c ∧ Q (.bl c) H') (fun _ _ _ => False)
def rNeO (K : PySem.W.Frag) (C : Addr) (sp : Sp) : R2 := fun x y H Q => ∃ a dx fs t, x = .ref a ∧ H a = some (.ins C dx fs) ∧ TyX K H y t ∧ PySem.W.notFirst K C t = true ∧ sp [x, y] H (fun v H' => ∃ c, v = .bl c ∧ Q (.bl (!c)) H') (fun _ _ _ => False)
section
variable {X : Cx} {CX : CXT} {C f : Addr} {fd : FuncData} {ps : List Str} {sp : Sp} {n : Nat}
theorem own_run {A : Around} {pins : List (Addr × Obj)} {σ : St} {H : Hp} {s : Shared} {Q : VK} {a : Addr} {y : V} {u : Value} (F : FnOk X.prog X.w X.K X.mg X.base CX n f fd ps sp) (hr : Room n A) (hfr : A.frames = X.A.frames) (hb : Binds X.K fd ps []) (hx : Passes CX X (fun _ _ _ => False))
    (I : Inv X pins σ H s) (ry : RelV y u) (h : sp [.ref a, y] H Q (fun _ _ _ => False)) : wpAny (model X.prog X.w) A (call (.ref f) [.ref a, u]) (EP X pins σ Q) X.xe s := by
  have e0 : Env0 X.prog X.w X.K X.mg X.base A X.stack s H := by
    have e := I.env0
    exact ⟨by rw [hfr]; exact e.frames, e.mod, e.bs, e.bsz, e.funs, e.frf, e.hok, e.bare⟩
  have hl := F.len _ _ _ _ h
  have r2 : Vals [V.ref a, y] [Value.ref a, u] := .cons rfl (.cons ry .nil)
  refine wpAny_call (codeAny_mono (F.run A X.stack s H ⟨[.ref a, u], []⟩ [.ref a, u] [.ref a, y] _ _ hr e0 (by
    have := hb s [.ref a, u] I.kIn (by simpa using hl)
    simpa using this) r2 h) fun r s' hq => ?_)
  cases r with
  | error e => exact hx pins σ H s e s' I hq
  | ok fl =>
    cases fl with
    | ret w => exact I.after hq
    | next => exact False.elim hq
    | brk => exact False.elim hq
    | cont => exact False.elim hq
theorem op_eqO (e : EqOf X.K C f) (F : FnOk X.prog X.w X.K X.mg X.base CX n f fd ps sp) (hr : Room n X.A) (hb : Binds X.K fd ps []) (hx : Passes CX X (fun _ _ _ => False)) : OpR X (compareOp .Eq) (rEqO X.K C sp) := by
  intro pins s σ H x y v u Q I rx ry hq
  obtain ⟨a, dx, fs, t, rfl, ha, ty, hn, h⟩ := hq
  obtain rfl : v = Value.ref a := rx
  obtain ⟨mA, J, _⟩ := ins_get I.hok ha
  obtain ⟨od, J, _⟩ := J.look
  obtain ⟨m, hF⟩ := I.fr
  obtain ⟨P, Z, p, _⟩ := kit_of I ry ty
  show wpAny (model X.prog X.w) X.A (richCompare .Eq (.ref a) u) (EP X pins σ Q) X.xe s
  have hu : X.A.units < cLine := by have := hr.un; omega
  refine PySem.W.cmp_K (op := .Eq) hu hF I.ok.mod.kin J (Z.ty _ _ I.kIn p) hn e.eq e.fn ?_
  refine wpAny_mono (own_run F hr rfl hb hx I ry h) (fun r s' z => ?_) fun _ _ z => z
  obtain ⟨z, H', I', rz, c, ez, q⟩ := z
  subst ez
  cases rz
  exact ⟨.bl c, H', I', rfl, q⟩
theorem op_neO (e : EqOf X.K C f) (F : FnOk X.prog X.w X.K X.mg X.base CX n f fd ps sp) (hr : Room (n + 1) X.A) (hb : Binds X.K fd ps []) (hx : Passes CX X (fun _ _ _ => False)) : OpR X (compareOp .NotEq) (rNeO X.K C sp) := by
  intro pins s σ H x y v u Q I rx ry hq
  obtain ⟨a, dx, fs, t, rfl, ha, ty, hn, h⟩ := hq
  obtain rfl : v = Value.ref a := rx
  obtain ⟨mA, J, _⟩ := ins_get I.hok ha
  obtain ⟨od, J, _⟩ := J.look
  obtain ⟨m, hF⟩ := I.fr
  obtain ⟨P, Z, p, _⟩ := kit_of I ry ty
  show wpAny (model X.prog X.w) X.A (richCompare .NotEq (.ref a) u) (EP X pins σ Q) X.xe s
  have hu : X.A.units + 1 < cLine := by have := hr.un; omega
  refine PySem.W.ne_own hu hF I.ok.mod.kin J (Z.ty _ _ I.kIn p) hn e.ne e.mro e.eq e.fn ?_
  refine wpAny_mono (own_run (A := X.A.in1) F hr.in1 rfl hb hx I ry h) (fun r s' z => ?_) fun _ _ z => z
  obtain ⟨z, H', I', rz, c, ez, q⟩ := z
  subst ez
  cases rz
  exact ⟨c, rfl, .bl (!c), H', I', rfl, q⟩
end
end L2
namespace L2
open PySem PySem.Spec PyProof.Rows
/-- what isinstance asks of an own class, and of tuples, numbers and texts beside it -/
structure OwnC (K : PySem.W.Frag) (C : Addr) : Prop where
  cls : PySem.W.findIn K (.ref C) "__class__" = some (some (.builtin "object.__class__"))
  get : PySem.W.specialIn K (.builtin "object.__class__") "__get__" = some (some (.builtin "getset_descriptor.__get__"))
  tak : PySem.W.takesIn K (.builtin "object.__class__") = some true
  mro : PySem.W.mroIn K C (.type "object") = some true
  isc : PySem.W.isClsIn K C = true
  typ : PySem.W.typeIn K (.ref C) = some (.type "type")
  sT : PySem.W.subIn K (.type "tuple") (.ref C) = some false
  sI : PySem.W.subIn K (.type "int") (.ref C) = some false
  sS : PySem.W.subIn K (.type "str") (.ref C) = some false
section
variable {K : PySem.W.Frag} {C : Addr} {H : Hp} {Q : VK} {x : V}
theorem OwnC.tyx (o : OwnC K C) (cl : Cls K C) {a dx : Addr} {fs : List (Str × V)} (h : H a = some (.ins C dx fs)) : TyX K H (.ref a) (.ref C) := .base (.ins h cl o.cls o.get o.tak o.mro)
theorem kit_self : PySem.W.kitOne K (.ref C) (.ref C) = some true := if_pos (beq_self_eq_true _)
theorem kit_no {n : String} (h1 : PySem.W.isClsIn K C = true) (h2 : PySem.W.typeIn K (.ref C) = some (.type "type")) (h : PySem.W.subIn K (.type n) (.ref C) = some false) : PySem.W.kitOne K (.type n) (.ref C) = some false := by
  have h1' : (PySem.W.clsIn K C).isSome = true := h1
  unfold PySem.W.kitOne
  rw [if_neg (by intro e; cases (beq_iff_eq.mp e))]
  show (if ((PySem.W.clsIn K C).isSome && PySem.W.typeIn K (.ref C) == some (.type "type")) = true then PySem.W.subIn K (.type n) (.ref C) else none) = some false
  rw [if_pos (by rw [h1', h2]; rfl)]
  exact h
theorem first_self : PySem.W.notFirst K C (.ref C) = true := by simp [PySem.W.notFirst]
theorem first_no {n : String} (h : PySem.W.subIn K (.type n) (.ref C) = some false) : PySem.W.notFirst K C (.type n) = true := by
  unfold PySem.W.notFirst
  rw [h]
  simp
theorem w_isOwn (o : OwnC K C) (cl : Cls K C) {a dx : Addr} {fs : List (Str × V)} (h : H a = some (.ins C dx fs)) (q : Q (.bl true) H) : rIsi K [.ref a, .ref C] H Q := ⟨_, _, _, _, _, rfl, .own C, o.tyx cl h, kit_self, q⟩
theorem w_isNot (o : OwnC K C) {n : String} (ht : TyX K H x (.type n)) (hs : PySem.W.subIn K (.type n) (.ref C) = some false) (q : Q (.bl false) H) : rIsi K [x, .ref C] H Q := ⟨_, _, _, _, _, rfl, .own C, ht, kit_no o.isc o.typ hs, q⟩
theorem w_rep {l : Addr} {xs : List V} {k : Int} (h : H l = some (.lst xs)) (h0 : 0 ≤ k) (h1 : k ≤ 1000) (hz : xs.length ≤ 1000) (q : ∀ p, H p = none → Q (.ref p) (upd H p (.lst (List.replicate k.toNat xs).flatten))) : rRep (.ref l) (.int k) H Q :=
  ⟨l, k, xs, rfl, rfl, h, by omega, by omega, by
    rw [sizeLine_eq]
    have : xs.length * k.toNat ≤ 1000 * 1000 := Nat.mul_le_mul hz (by omega)
    omega, q⟩
end
/-! ### rows of any values; rows of new lists -/
def RRw (b : Bool) (K : PySem.W.Frag) : Rep (List V) := fun H v xs => ∃ a, v = .ref a ∧ Sq b K H a xs
theorem RRw.mono {b : Bool} {K : PySem.W.Frag} : RMono (RRw b K) := fun _ _ _ _ s ⟨a, e, h⟩ => ⟨a, e, s.sq h⟩
theorem RRw.tup {K : PySem.W.Frag} : RTup (RRw false K) := fun _ _ _ _ hD ⟨a, e, h⟩ => ⟨a, e, sq_hide hD h⟩
/-- D a list of new lists: their addresses, none twice, none there before -/
def FRows (H0 H : Hp) (D : Addr) (rows : List (List V)) : Prop := ∃ ps : List Addr, H D = some (.lst (ps.map V.ref)) ∧ ps.length = rows.length ∧ ps.Nodup ∧ (∀ p ∈ ps, H0 p = none) ∧ H0 D = none ∧ D ∉ ps ∧ ∀ (i : Nat) p r, ps[i]? = some p → rows[i]? = some r → H p = some (.lst r)
section
variable {K : PySem.W.Frag} {H0 H H' : Hp} {D : Addr} {rows : List (List V)}
theorem FRows.mono (s : Same H H') (f : FRows H0 H D rows) : FRows H0 H' D rows := by
  obtain ⟨ps, h1, h2, h3, h4, h5, h6, h7⟩ := f
  exact ⟨ps, s _ _ h1, h2, h3, h4, h5, h6, fun i p r a b => s _ _ (h7 i p r a b)⟩
theorem FRows.seq (f : FRows H0 H D rows) : RSeq true K (RRw true K) H (.ref D) rows := by
  obtain ⟨ps, h1, h2, h3, h4, h5, h6, h7⟩ := f
  refine ⟨D, _, rfl, Sq.lst h1, by rw [List.length_map]; exact h2, fun i y x hy hx => ?_⟩
  rw [List.getElem?_map] at hy
  cases e : ps[i]? with
  | none => rw [e] at hy; cases hy
  | some p =>
    rw [e] at hy
    cases hy
    exact ⟨p, rfl, Sq.lst (h7 i p x e hx)⟩
/-- a store into one of the rows -/
theorem FRows.set {i : Nat} {r r' : List V} (f : FRows H0 H D rows) (hi : rows[i]? = some r) : ∃ p, (∃ ps : List Addr, H D = some (.lst (ps.map V.ref)) ∧ ps[i]? = some p) ∧ H p = some (.lst r) ∧ H0 p = none ∧ p ≠ D ∧ FRows H0 (upd H p (.lst r')) D (rows.set i r') := by
  obtain ⟨ps, h1, h2, h3, h4, h5, h6, h7⟩ := f
  have hlt := (List.getElem?_eq_some_iff.mp hi).1
  have hp : ps[i]? = some (ps[i]'(by omega)) := List.getElem?_eq_getElem (by omega)
  generalize ps[i]'(by omega) = p at hp
  have hm := List.mem_of_getElem? hp
  have hpD : p ≠ D := fun e => h6 (by rw [← e]; exact hm)
  refine ⟨p, ⟨ps, h1, hp⟩, h7 i p r hp hi, h4 p hm, hpD, ps, (upd_ne (Ne.symm hpD)).trans h1, by rw [List.length_set]; exact h2, h3, h4, h5, h6, fun j q x hq hx => ?_⟩
  rw [List.getElem?_set] at hx
  by_cases e : i = j
  · subst e
    rw [if_pos rfl, if_pos hlt] at hx
    rw [hp] at hq
    cases hq
    cases hx
    exact upd_same
  · rw [if_neg e] at hx
    have hqp : q ≠ p := fun z => e (by
      subst z
      have a := (List.getElem?_eq_some_iff.mp hp)
      have b := (List.getElem?_eq_some_iff.mp hq)
      exact (List.getElem_inj h3).mp (a.2.trans b.2.symm))
    rw [upd_ne hqp]
    exact h7 j q x hq hx
theorem map_ref_inj : ∀ {ps qs : List Addr}, ps.map V.ref = qs.map V.ref → ps = qs
  | [], [], _ => rfl
  | [], q :: qs, h => by cases h
  | p :: ps, [], h => by cases h
  | p :: ps, q :: qs, h => by
    rw [List.map_cons, List.map_cons] at h
    injection h with h1 h2
    injection h1 with h1
    rw [h1, map_ref_inj h2]
/-- a new list put behind the rows -/
theorem FRows.push {p : Addr} {r : List V} {ps : List Addr} (h1 : H D = some (.lst (ps.map V.ref))) (f : FRows H0 H D rows) (hp : H p = some (.lst r)) (h0 : H0 p = none) (hn : p ∉ ps) (hD : p ≠ D) : FRows H0 (upd H D (.lst (ps.map V.ref ++ [.ref p]))) D (rows ++ [r]) := by
  obtain ⟨ps', g1, h2, h3, h4, h5, h6, h7⟩ := f
  have e : ps' = ps := by
    rw [g1] at h1
    have h1 : ps'.map V.ref = ps.map V.ref := by
      have := Option.some.inj h1
      injection this
    exact map_ref_inj h1
  subst e
  refine ⟨ps' ++ [p], by rw [upd_same, List.map_append]; rfl, by rw [List.length_append, List.length_append, h2]; rfl, List.nodup_append.mpr ⟨h3, List.nodup_cons.mpr ⟨List.not_mem_nil, List.nodup_nil⟩, fun a ha b hb e => hn (by rw [List.mem_singleton.mp hb] at e; rw [← e]; exact ha)⟩,
    fun q hq => ?_, h5, fun hm => ?_, fun i q x hq hx => ?_⟩
  · rcases List.mem_append.mp hq with h | h
    · exact h4 q h
    · rw [List.mem_singleton.mp h]; exact h0
  · rcases List.mem_append.mp hm with h | h
    · exact h6 h
    · exact hD (List.mem_singleton.mp h).symm
  · have hq1 := (List.getElem?_eq_some_iff.mp hq).1
    rw [List.length_append] at hq1
    by_cases hlt : i < ps'.length
    · rw [List.getElem?_append_left hlt] at hq
      rw [List.getElem?_append_left (by omega)] at hx
      have hqD : q ≠ D := fun e => h6 (by rw [← e]; exact List.mem_of_getElem? hq)
      rw [upd_ne hqD]
      exact h7 i q x hq hx
    · have ei : i = ps'.length := by
        have : i < ps'.length + 1 := hq1
        omega
      subst ei
      rw [List.getElem?_append_right (Nat.le_refl _), Nat.sub_self] at hq
      rw [h2, List.getElem?_append_right (Nat.le_refl _), Nat.sub_self] at hx
      cases hq
      cases hx
      rw [upd_ne hD]
      exact hp
end
theorem line_of1 {n : Nat} (h : n ≤ 1000000) : n < sizeLine := by rw [sizeLine_eq]; omega
theorem w_tupAny {K : PySem.W.Frag} {H : Hp} {Q : VK} {b : Bool} {a : Addr} {ys : List V} (h : Sq b K H a ys) (q : ∀ p H', Same H H' → Sq false K H' p ys → Q (.ref p) H') : rTupS K [.ref a] H Q := by
  cases b with
  | true => exact w_tupL h fun p hp => q _ _ (Same.new hp) (Sq.tup upd_same)
  | false => exact w_tupT h (q _ _ (Same.refl _) h)
theorem w_catA {K : PySem.W.Frag} {H : Hp} {Q : VK} {a b : Addr} {xs ys : List V} (h1 : Sq false K H a xs) (h2 : Sq false K H b ys) (hz : xs.length + ys.length ≤ 1000000) (q : ∀ p H', Same H H' → Sq false K H' p (xs ++ ys) → Q (.ref p) H') : rCatA K (.ref a) (.ref b) H Q :=
  ⟨a, b, xs, ys, rfl, rfl, h1, h2, by rw [sizeLine_eq]; omega, fun e => q _ _ (Same.refl _) (by rw [e]; exact h2), fun _ e => q _ _ (Same.refl _) (by rw [e, List.append_nil]; exact h1), fun _ _ p hp => q _ _ (Same.new hp) (Sq.tup upd_same)⟩
theorem Fr.sqI {b : Bool} {K : PySem.W.Frag} {H H' : Hp} {t a : Addr} {xs : List V} (f : Fr t H H') (ht : ∃ C dx fs, H t = some (.ins C dx fs)) (h : Sq b K H a xs) : Sq b K H' a xs := by
  obtain ⟨C, dx, fs, ht⟩ := ht
  cases b with
  | true =>
    have h : SqL K H a xs := h
    rcases h with (h | ⟨o, h⟩) | h
    · exact .inl (.inl (f _ _ (fun e => by rw [e, ht] at h; cases h) h))
    · exact .inl (.inr ⟨o, f _ _ (fun e => by rw [e, ht] at h; cases h) h⟩)
    · exact .inr h
  | false =>
    have h : SqT K H a xs := h
    rcases h with (h | ⟨o, h⟩) | h
    · exact .inl (.inl (f _ _ (fun e => by rw [e, ht] at h; cases h) h))
    · exact .inl (.inr ⟨o, f _ _ (fun e => by rw [e, ht] at h; cases h) h⟩)
    · exact .inr h
/-- lists or tuples of lists or tuples of any values -/
def RRows (b1 b2 : Bool) (K : PySem.W.Frag) : Rep (List (List V)) := RSeq b1 K (RRw b2 K)
theorem RRows.mono {b1 b2 : Bool} {K : PySem.W.Frag} : RMono (RRows b1 b2 K) := RSeq.mono RRw.mono
theorem RRows.fr {b1 b2 : Bool} {K : PySem.W.Frag} {H H' : Hp} {t : Addr} {v : V} {rows : List (List V)} (f : Fr t H H') (ht : ∃ C dx fs, H t = some (.ins C dx fs)) (h : RRows b1 b2 K H v rows) : RRows b1 b2 K H' v rows := by
  obtain ⟨a, vs, e, h1, h2, h3⟩ := h
  exact ⟨a, vs, e, f.sqI ht h1, h2, fun i y x hy hx => by
    obtain ⟨p, e, hp⟩ := h3 i y x hy hx
    exact ⟨p, e, f.sqI ht hp⟩⟩
theorem RRows.get {b1 b2 : Bool} {K : PySem.W.Frag} {H : Hp} {v : V} {rows : List (List V)} {i : Nat} {r : List V} (h : RRows b1 b2 K H v rows) (hi : rows[i]? = some r) : ∃ a vs p, v = .ref a ∧ Sq b1 K H a vs ∧ vs.length = rows.length ∧ vs[i]? = some (.ref p) ∧ Sq b2 K H p r := by
  obtain ⟨a, vs, e, h1, h2, h3⟩ := h
  obtain ⟨y, hy, p, ep, hp⟩ := RSeq.get (R := RRw b2 K) h2 h3 hi
  subst ep
  exact ⟨a, vs, p, e, h1, h2, hy, hp⟩
theorem none_back {H H' : Hp} {p : Addr} (s : Same H H') (h : H' p = none) : H p = none := by
  cases e : H p with
  | none => rfl
  | some u => rw [s _ _ e] at h; cases h
section
variable {K : PySem.W.Frag} {σ : St} {H : Hp} {te : TE} {vs : List Nat} {Q : VK}
theorem FRows.nil {D : Addr} (hD : H D = none) : FRows H (upd H D (.lst [])) D [] := ⟨[], upd_same, rfl, List.nodup_nil, List.forall_mem_nil _, hD, List.not_mem_nil, fun i p r h => by simp at h⟩
theorem FRows.next {H0 H1 H2 : Hp} {D p : Addr} {rows : List (List V)} {r : List V} {acc : List V} (f : FRows H0 H1 D rows) (s0 : Same H0 H1) (e : H1 D = some (.lst acc)) (hp : H1 p = none) (s : Same H1 H2) (ep : H2 p = some (.lst r)) :
    H2 D = some (.lst acc) ∧ FRows H0 (upd H2 D (.lst (acc ++ [.ref p]))) D (rows ++ [r]) := by
  obtain ⟨ps, h1, h2, h3, h4, h5, h6, h7⟩ := id f
  have ea : acc = ps.map V.ref := by
    rw [h1] at e
    have e := Option.some.inj e
    injection e with e
    exact e.symm
  subst ea
  refine ⟨s _ _ e, (f.mono s).push (s _ _ h1) ep (none_back s0 hp) (fun hm => ?_) (fun e2 => by rw [e2, e] at hp; cases hp)⟩
  obtain ⟨q, hq1, hq2⟩ := List.mem_iff_getElem.mp hm
  have a1 : ps[q]? = some p := by rw [List.getElem?_eq_getElem hq1, hq2]
  have a3 := h7 q p _ a1 (List.getElem?_eq_getElem (by omega))
  rw [a3] at hp; cases hp
/-- a comprehension that gives new lists -/
theorem c_fresh {b : Bool} {a : Addr} {j : Nat} (rows : List (List V)) (xs : List V) (hx : Sq b K H a xs) (hl : rows.length = xs.length) (hz : xs.length < sizeLine) (hw : ∀ x : V, wipe ((wipe σ vs).set j (some x)) vs = wipe σ vs)
    (hs : ∀ (i : Nat) x r H1 (N : VK), i < xs.length → xs[i]? = some x → rows[i]? = some r → Same H H1 → (∀ p H2, H1 p = none → Same H1 H2 → H2 p = some (.lst r) → N (.ref p) H2) → te ((wipe σ vs).set j (some x)) H1 N)
    (k : ∀ D H', Same H H' → FRows H H' D rows → Q (.ref D) H') :
    ∃ a', V.ref a = .ref a' ∧ ((∃ xs, SqL K H a' xs) ∧ CompOk (Itl K a') (gName j) tYes te vs σ H Q ∨ (∃ xs, SqT K H a' xs) ∧ CompOk (Itt K a') (gName j) tYes te vs σ H Q) := by
  refine l_compGS (b := b) xs hz (fun D i acc H' => Same H H' ∧ FRows H H' D (rows.take i)) hx hw (fun D hD => ⟨Same.new hD, FRows.nil hD⟩) (fun D i acc H' st => st.1.sq hx) (fun i x H1 D acc NT NF hi hxi hD st e1 hal hT hF => ?_) (fun D H' ys hD st e hly => ?_)
  · obtain ⟨s1, f1⟩ := st
    have hri : rows[i]? = some (rows[i]'(by omega)) := List.getElem?_eq_getElem (by omega)
    show te _ H1 NT
    refine hs i x _ H1 NT hi hxi hri s1 fun p H2 hp s2 ep => ?_
    obtain ⟨e2, f2⟩ := f1.next s1 e1 hp s2 ep
    refine hT _ H2 e2 ⟨Same.mut (s1.trans s2) hD, ?_⟩
    rw [List.take_add_one, hri]
    exact f2
  · rw [← hl, List.take_length] at st
    exact k D H' st.1 st.2
end
theorem w_setV {H : Hp} {p : Addr} {xs : List V} {k : Int} {v : V} {N : Hp → Prop} (h : H p = some (.lst xs)) (h0 : 0 ≤ k) (h1 : k < xs.length) (q : N (upd H p (.lst (xs.set k.toNat v)))) : rSetL (.ref p) (.int k) v H N := by
  refine ⟨p, xs, k, k.toNat, rfl, rfl, h, ?_, q⟩
  unfold ixN
  rw [if_pos h0, if_pos h1]
theorem RRows.updL {K : PySem.W.Frag} {H : Hp} {q : Addr} {xs : List V} {o : HO} {v : V} {rows : List (List V)} (hq : H q = some (.lst xs)) (h : RRows false false K H v rows) : RRows false false K (upd H q o) v rows :=
  RTup.upd (RSeq.tup RRw.tup) RRows.mono (NTup.lst hq) h
/-- all keyword-only parameters written -/
theorem kbind_of {K : PySem.W.Frag} {x qual : Str} {st : Stmt} {f : Addr} {fd : FuncData} {ps ks : List Str} {n : Nat} (F : Fun K x qual st f fd)
    (h : ∀ (kV doc pm : Value) (an : Option Addr) (cdv ct : Value) (us ws : List Value), us.length = n → ws.length = ks.length → bindArgs (PySem.W.fnOf x qual (defArgs st) (defBody st) (defScope st) .none kV doc pm an cdv ct) ⟨us, ks.zip ws⟩ = pure (ps.zip (us ++ ws))) :
    KBn K fd ps n ks (fun us ws => us ++ ws) (fun vs zs => vs ++ zs) := by
  obtain ⟨oc, od, kV, doc, pm, an, cdv, ct, osl, rfl, lk, hcd⟩ := F.ex
  exact ⟨fun s us ws X l1 l2 => .of_eq (h kV doc pm an cdv ct us ws l1 l2), fun r1 r2 => r1.append r2⟩
/-- one keyword-only parameter that lacks: its default is read off -/
theorem kbind_dflt {K : PySem.W.Frag} {x qual m : Str} {st : Stmt} {f D : Addr} {oc doc pm cdv ct u : Value} {od an : Option Addr} {osl : Array (Option Value)} {ps : List Str} (n : Nat) (hn : n + 1 = ps.length)
    (l : K.lookup f = some ⟨oc, od, .func (PySem.W.fnOf x qual (defArgs st) (defBody st) (defScope st) .none (.ref D) doc pm an cdv ct), osl⟩) (hd : PySem.W.nsIn K D m = some (some u))
    (h : ∀ (us : List Value), us.length = n → KwChain D [(m, u)] (bindArgs (PySem.W.fnOf x qual (defArgs st) (defBody st) (defScope st) .none (.ref D) doc pm an cdv ct) ⟨us, []⟩) (ps.zip (us ++ [u]))) :
    Binds K (PySem.W.fnOf x qual (defArgs st) (defBody st) (defScope st) .none (.ref D) doc pm an cdv ct) ps [u] := fun s us X hlen => by
  have l2 : us.length = n := by
    rw [List.length_append] at hlen
    have : us.length + 1 = ps.length := hlen
    omega
  exact BindsTo.of_looks fun M => KwChain.looks X (fun q hq => by
    rw [List.mem_singleton.mp hq]
    exact hd) (h us l2)
section
variable {K : PySem.W.Frag} {σ : St} {H : Hp} {te : TE} {vs : List Nat} {Q : VK}
/-- a comprehension over enumerate that gives numbers -/
theorem c_intsE {b : Bool} {a : Addr} {i1 i2 : Nat} (xs : List V) (hx : Sq b K H a xs) (ms : List Int) (hl : ms.length = xs.length) (hz : xs.length < sizeLine) (hw : ∀ x y : V, wipe (((wipe σ vs).set i1 (some x)).set i2 (some y)) vs = wipe σ vs)
    (hs : ∀ (i : Nat) x H1 (N : VK), i < xs.length → xs[i]? = some x → Same H H1 → (∀ H4, Same H1 H4 → N (.int (nth ms (i : Nat))) H4) → te (((wipe σ vs).set i1 (some (.int (i : Int)))).set i2 (some x)) H1 N)
    (k : ∀ D H', H D = none → Same H H' → H' D = some (.lst (ms.map V.int)) → Q (.ref D) H') :
    ∃ a', [V.ref a] = [.ref a'] ∧ ((∃ xs, SqL K H a' xs) ∧ CompOk (Ite K a') (gTup K 2 (gCons (gName i1) (gCons (gName i2) gNil))) tYes te vs σ H Q ∨ (∃ xs, SqT K H a' xs) ∧ CompOk (IteT K a') (gTup K 2 (gCons (gName i1) (gCons (gName i2) gNil))) tYes te vs σ H Q) := by
  have body : ∀ (i : Nat) (v : V) H1 (T D : Addr) acc (NT : VK), i < xs.length → xs[i]? = some v → H D = none → (Same H H1 ∧ acc.length = i ∧ ∀ (j : Nat) y, acc[j]? = some y → y = .int (nth ms (j : Nat))) → H1 D = some (.lst acc) → H1 T = none →
      (∀ y H5, H5 D = some (.lst acc) → (Same H (upd H5 D (.lst (acc ++ [y]))) ∧ (acc ++ [y]).length = i + 1 ∧ ∀ (j : Nat) z, (acc ++ [y])[j]? = some z → z = .int (nth ms (j : Nat))) → NT y H5) →
      te (((wipe σ vs).set i1 (some (.int (i : Int)))).set i2 (some v)) (upd H1 T (.tup [.int (i : Int), v])) NT := fun i v H1 T D acc NT hi hv hD st e1 hT hN => by
    obtain ⟨s1, hal, hac⟩ := st
    have sT := s1.trans (Same.new (o := .tup [.int (i : Int), v]) hT)
    refine hs i v _ NT hi hv sT fun H4 s4 => hN _ H4 (s4 _ _ (Same.new hT _ _ e1)) ⟨Same.mut (sT.trans s4) hD, by rw [List.length_append, hal]; rfl, fun j z hj => ?_⟩
    by_cases hlt : j < acc.length
    · rw [List.getElem?_append_left hlt] at hj
      exact hac j z hj
    · have h1 := (List.getElem?_eq_some_iff.mp hj).1
      rw [List.length_append] at h1
      have ej : j = acc.length := by
        have : j < acc.length + 1 := h1
        omega
      subst ej
      rw [List.getElem?_append_right (Nat.le_refl _), Nat.sub_self] at hj
      cases hj
      rw [hal]
  refine ⟨a, rfl, ?_⟩
  cases b with
  | true =>
    refine .inl ⟨⟨xs, hx⟩, l_compG (walk_enum (xs := xs)) hz (fun D i acc H' => Same H H' ∧ acc.length = i ∧ ∀ (j : Nat) y, acc[j]? = some y → y = .int (nth ms (j : Nat))) (fun D hD => ⟨Same.new hD, rfl, fun j y e => by simp at e⟩) (fun D i acc H' st => st.1.sq hx) (fun i x H1 H2 D acc NT NF hi hD st e1 hal hy hT hF => ?_) (fun D H' ys hD st e hly => ?_)⟩
    · obtain ⟨T, u, v, rfl, hTn, e, hu, hv⟩ := hy
      cases hu
      subst e
      refine w_pair (Sq.tup upd_same) ⟨hw _ _, ?_⟩
      show te _ _ NT
      exact body i v H1 T D acc NT hi hv hD st e1 hTn hT
    · exact k D H' hD st.1 (by rw [e, vec_of (by omega) st.2.2])
  | false =>
    refine .inr ⟨⟨xs, hx⟩, l_compG (walk_enumT (xs := xs)) hz (fun D i acc H' => Same H H' ∧ acc.length = i ∧ ∀ (j : Nat) y, acc[j]? = some y → y = .int (nth ms (j : Nat))) (fun D hD => ⟨Same.new hD, rfl, fun j y e => by simp at e⟩) (fun D i acc H' st => st.1.sq hx) (fun i x H1 H2 D acc NT NF hi hD st e1 hal hy hT hF => ?_) (fun D H' ys hD st e hly => ?_)⟩
    · obtain ⟨T, u, v, rfl, hTn, e, hu, hv⟩ := hy
      cases hu
      subst e
      refine w_pair (Sq.tup upd_same) ⟨hw _ _, ?_⟩
      show te _ _ NT
      exact body i v H1 T D acc NT hi hv hD st e1 hTn hT
    · exact k D H' hD st.1 (by rw [e, vec_of (by omega) st.2.2])
end
end L2

namespace L2
open PySem PySem.Spec PyProof.Rows
/-! ### methods of lists without arguments -/
section
variable {X : Cx} {K : PySem.W.Frag}
theorem k_bm0 {o : Expr} {to : TE} {name : Str} {apos cpos : Pos} {T id : String} {r : V → List V → Hp → VK → Prop} (h : X.K = K)
    (pa : PlainAttrs T) (slot : Slot T name id) (hty : typeOf (.builtin id) = pure (.type "method_descriptor")) (hm : MtM X id r) (ho : PE X o to)
    (hbase : attributeBase o name X.env (eval o X.env) = eval o X.env := by rfl)
    (hline : (apos.endLine == cpos.line) = true := by rfl) :
    PE X (.Call (.Attribute o name apos) [] [] cpos) (tBM0 K T r to) := h ▸ pe_bm0 pa slot hty hm ho hbase hline
theorem w_bm0 {T : String} {r : V → List V → Hp → VK → Prop} {to : TE} {σ : L2.St} {H : Hp} {Q : VK} (q : to σ H fun x H1 => tyV K T x H1 ∧ r x [] H1 Q) : tBM0 K T r to σ H Q := q
theorem w_pop {H : Hp} {Q : VK} {l : Addr} {ns : List Int} (h : H l = some (.lst (ns.map V.int))) (hp : 0 < ns.length) (q : Q (.int (nth ns ((ns.length - 1 : Nat) : Int))) (upd H l (.lst (ns.dropLast.map V.int)))) : rPop (.ref l) [] H Q :=
  ⟨l, ns.map V.int, .int (nth ns ((ns.length - 1 : Nat) : Int)), rfl, rfl, h, by rw [List.length_map, vec_get (by omega)], by rw [← List.map_dropLast]; exact q⟩
theorem w_reverse {H : Hp} {Q : VK} {l : Addr} {ns : List Int} (h : H l = some (.lst (ns.map V.int))) (q : Q .non (upd H l (.lst (ns.reverse.map V.int)))) : rReverse (.ref l) [] H Q :=
  ⟨l, ns.map V.int, rfl, rfl, h, by rw [← List.map_reverse]; exact q⟩
end
end L2

namespace L2
open PySem PySem.Spec PyProof.Rows
/-! ### x + y, x - y, x * y of two instances of a class, by its own method -/
structure BinOf (K : PySem.W.Frag) (C f : Addr) (nm : Str) : Prop where
  at_ : PySem.W.findIn K (.ref C) nm = some (some (.ref f))
  fn : PySem.W.isFn K (.ref f) = true
  sf : PySem.W.selfFirst K C = true
def rBinO (C : Addr) (sp : Sp) : R2 := fun x y H Q => ∃ a dx fs b dy gs, x = .ref a ∧ y = .ref b ∧ H a = some (.ins C dx fs) ∧ H b = some (.ins C dy gs) ∧ sp [x, y] H (fun v H' => (∃ p, v = .ref p) ∧ Q v H') (fun _ _ _ => False)
theorem op_binO {X : Cx} {CX : CXT} {C f : Addr} {fd : FuncData} {ps : List Str} {sp : Sp} {n : Nat} {op : Operator} {nm : Str} (e : BinOf X.K C f nm) (F : FnOk X.prog X.w X.K X.mg X.base CX n f fd ps sp) (hr : Room n X.A) (hb : Binds X.K fd ps []) (hx : Passes CX X (fun _ _ _ => False)) (hn : PySem.dunder op.info.2 = nm := by rfl) :
    OpR X (binaryOp op) (rBinO C sp) := by
  intro pins s σ H x y v u Q I rx ry hq
  obtain ⟨a, dx, fs, b, dy, gs, rfl, rfl, ha, hb', h⟩ := hq
  obtain rfl : v = Value.ref a := rx
  obtain rfl : u = Value.ref b := ry
  obtain ⟨mA, J, _⟩ := ins_get I.hok ha
  obtain ⟨od, J, _⟩ := J.look
  obtain ⟨mB, J', _⟩ := ins_get I.hok hb'
  obtain ⟨od', J', _⟩ := J'.look
  obtain ⟨m, hF⟩ := I.fr
  refine PySem.W.binop_K (op := op) hF I.ok.mod.kin J J'.type e.sf (by rw [hn]; exact e.at_) e.fn ?_
  refine wpAny_mono (own_run F hr rfl hb hx I (show RelV (V.ref b) (Value.ref b) from rfl) h) (fun r s' z => ?_) fun _ _ z => z
  obtain ⟨z, H', I', rz, ⟨p, ez⟩, q⟩ := z
  subst ez
  obtain rfl : r = Value.ref p := rz
  exact ⟨.ref p, H', I', rfl, q⟩
end L2

namespace L2
open PySem PySem.Spec PyProof.Rows
/-! ### // of numbers of at most 4000 bits by any number; tuples that stand in the heap; dicts with tuples as keys -/
def CDivV (i j : Int) : Prop := j ≠ 0 ∧ i.natAbs < 2 ^ 4000
theorem noPylong_w {x y : Int} (h : x.natAbs < 2 ^ 4000) : Builtin.divisionGoesByPylong x y = false := by
  unfold Builtin.divisionGoesByPylong
  have k : (if x == 0 then 0 else x.natAbs.log2 / 30 + 1) ≤ 150 := by
    by_cases h0 : x = 0
    · subst h0; decide
    · rw [if_neg (by simpa using h0)]
      have h1 : x.natAbs.log2 < 4000 := (Nat.log2_lt (by omega)).mpr h
      omega
  have e : decide ((if x == 0 then 0 else x.natAbs.log2 / 30 + 1) > (if y == 0 then 0 else y.natAbs.log2 / 30 + 1) + 150) = false := decide_eq_false (by omega)
  show (decide _ && decide ((if x == 0 then 0 else x.natAbs.log2 / 30 + 1) > (if y == 0 then 0 else y.natAbs.log2 / 30 + 1) + 150)) = false
  rw [e, Bool.and_false]
theorem op_fdivV {X : Cx} : OpR X (binaryOp .FloorDiv) (rI CDivV fun i j => .int (i.fdiv j)) := opI fun _ _ _ _ _ _ _ hc q => floordiv_int hc.1 q (.inl (noPylong_w hc.2))
theorem mulW {i j : Int} (h1 : i.natAbs < 2 ^ 2000) (h2 : j.natAbs < 2 ^ 2000) : CMulX i j := mulx_ok h1 h2 (by omega)
/-- a list (true), or a tuple that stands in the heap -/
def Tq (b : Bool) (K : PySem.W.Frag) (H : Hp) (a : Addr) (xs : List V) : Prop := match b with
  | true => SqL K H a xs
  | false => H a = some (.tup xs)
theorem Tq.sq {b : Bool} {K : PySem.W.Frag} {H : Hp} {a : Addr} {xs : List V} (h : Tq b K H a xs) : Sq b K H a xs := by
  cases b
  · exact Sq.tup h
  · exact h
theorem Same.tq {b : Bool} {K : PySem.W.Frag} {H H' : Hp} {a : Addr} {xs : List V} (s : Same H H') (h : Tq b K H a xs) : Tq b K H' a xs := by
  cases b
  · exact s _ _ h
  · exact s.sq (b := true) h
section
variable {K : PySem.W.Frag} {σ : St} {H : Hp} {Q : VK}
theorem w_slTq {b : Bool} {a : Addr} {xs ys : List V} {lo hi : Option Int} (h : Tq b K H a xs) (e : cutV xs lo hi = ys) (q : ∀ p H', Same H H' → Tq b K H' p ys → Q (.ref p) H') : rSlG K (.ref a) lo hi H Q := by
  cases b with
  | true => exact .inl ⟨a, xs, rfl, h, fun p hp => q _ _ (Same.new hp) (show SqL _ _ _ _ from SqL.of (by rw [upd_same, e]))⟩
  | false =>
    refine .inr ⟨a, xs, rfl, Sq.tup h, fun hw => ?_, fun _ p hp => q _ _ (Same.new hp) (show _ = _ by rw [upd_same, e])⟩
    have e2 : xs = ys := by
      rw [← e]
      unfold cutV
      rw [hw.1, hw.2, List.drop_zero, Nat.sub_zero, List.take_length]
    exact q _ _ (Same.refl _) (e2 ▸ h)
theorem w_tupTq {b : Bool} {a : Addr} {ys : List V} (h : Tq b K H a ys) (q : ∀ p H', Same H H' → H' p = some (.tup ys) → Q (.ref p) H') : rTupS K [.ref a] H Q := by
  cases b with
  | true => exact w_tupL h fun p hp => q _ _ (Same.new hp) upd_same
  | false => exact w_tupT (Sq.tup h) (q _ _ (Same.refl _) h)
theorem w_catT {a b : Addr} {xs ys : List V} (h1 : H a = some (.tup xs)) (h2 : H b = some (.tup ys)) (hz : xs.length + ys.length ≤ 1000000) (q : ∀ p H', Same H H' → H' p = some (.tup (xs ++ ys)) → Q (.ref p) H') : rCatA K (.ref a) (.ref b) H Q :=
  ⟨a, b, xs, ys, rfl, rfl, Sq.tup h1, Sq.tup h2, by rw [sizeLine_eq]; omega, fun e => q _ _ (Same.refl _) (by rw [e]; exact h2), fun _ e => q _ _ (Same.refl _) (by rw [e, List.append_nil]; exact h1), fun _ _ p hp => q _ _ (Same.new hp) upd_same⟩
theorem w_whN {m : Nat} {W : Nat → St → Hp → Prop} {F : (St → Hp → Prop) → Prop} (q : F fun σ' H' => ∃ m', m' < m ∧ W m' σ' H') : ∃ N : St → Hp → Prop, (∀ σ' H', N σ' H' → ∃ m', m' < m ∧ W m' σ' H') ∧ F N := ⟨_, fun _ _ h => h, q⟩
theorem w_dnew (q : ∀ p, H p = none → Q (.ref p) (upd H p (.dT []))) : tDNewT σ H Q := q
theorem w_dnotin {ty td : TE} (q : ty σ H fun y H1 => td σ H1 fun x H2 => ∃ a o, x = .ref a ∧ DGet H2 a y o ∧ Q (.bl (!o.isSome)) H2) : tDNotIn ty td σ H Q := q
theorem w_par {i j : Nat} {ta : TA} {f b' c' : St → Hp → Prop} {rt : VK} (q : ta σ H fun vs H1 => ∃ v w, vs = [v, w] ∧ f ((σ.set i (some v)).set j (some w)) H1) : tPar i j ta ⟨f, rt, b', c'⟩ σ H := q
theorem w_par2 {v w : V} {F : V → V → Prop} (q : F v w) : ∃ v' w', [v, w] = [v', w'] ∧ F v' w' := ⟨v, w, rfl, q⟩
theorem w_while {c : TT} {tb : TS} {f b' c' : St → Hp → Prop} {rt : VK} (W : Nat → St → Hp → Prop) (m : Nat) (h0 : W m σ H)
    (hs : ∀ m σ H, W m σ H → c σ H fun b H1 => if b = true then ∃ N : St → Hp → Prop, (∀ σ' H', N σ' H' → ∃ m', m' < m ∧ W m' σ' H') ∧ tb ⟨N, rt, f, N⟩ σ H1 else f σ H1) : tWhile c tb ⟨f, rt, b', c'⟩ σ H := by
  refine ⟨W, ⟨m, h0⟩, fun m σ H h => ?_⟩
  exact hs m σ H h
end
/-! ### all but what stands at one place -/
theorem Fr.hide {t : Addr} {H H' : Hp} (f : Fr t H H') : Same (hide t H) H' := fun b o e => by
  by_cases h : b = t
  · subst h; rw [hide_at] at e; cases e
  · rw [hide_ne h] at e; exact f b o h e
theorem Fr.rep {α : Type} {R : Rep α} (hm : RMono R) (ht : RTup R) {t : Addr} {H H' : Hp} {v : V} {x : α} (f : Fr t H H') (hn : NTup (H t)) (h : R H v x) : R H' v x := hm _ _ _ _ f.hide (ht _ _ _ _ hn h)
theorem Fr.sqD {t : Addr} {H H' : Hp} {b : Bool} {K : PySem.W.Frag} {a : Addr} {xs : List V} {kvs : List (List Key × V)} (f : Fr t H H') (ht : H t = some (.dT kvs)) (h : Sq b K H a xs) : Sq b K H' a xs := by
  cases b with
  | true =>
    have h : SqL K H a xs := h
    rcases h with (h | ⟨o, h⟩) | h
    · exact .inl (.inl (f _ _ (fun e => by rw [e, ht] at h; cases h) h))
    · exact .inl (.inr ⟨o, f _ _ (fun e => by rw [e, ht] at h; cases h) h⟩)
    · exact .inr h
  | false =>
    have h : SqT K H a xs := h
    rcases h with (h | ⟨o, h⟩) | h
    · exact .inl (.inl (f _ _ (fun e => by rw [e, ht] at h; cases h) h))
    · exact .inl (.inr ⟨o, f _ _ (fun e => by rw [e, ht] at h; cases h) h⟩)
    · exact .inr h
theorem Fr.tqD {t : Addr} {H H' : Hp} {b : Bool} {K : PySem.W.Frag} {a : Addr} {xs : List V} {kvs : List (List Key × V)} (f : Fr t H H') (ht : H t = some (.dT kvs)) (h : Tq b K H a xs) : Tq b K H' a xs := by
  cases b with
  | true => exact f.sqD (b := true) ht h
  | false =>
    have h : H a = some (.tup xs) := h
    exact f _ _ (fun e => by rw [e, ht] at h; cases h) h
theorem NTup.dT {H : Hp} {D : Addr} {kvs : List (List Key × V)} (h : H D = some (.dT kvs)) : NTup (H D) := by rw [h]; trivial
end L2

namespace PySem.W
open PySem PySem.Spec PySem.Calls PyProof.Rows
/-! ### isinstance of a caught error that has a dict of its own -/
section
variable {prog : Program} {w : World} {A : Around} {E : Value → Shared → Prop} {s : Shared} {K : Frag} {x D : Addr} {ox od : Obj}
theorem kin_classX {Q : Option Value → Shared → Prop} (hga : findIn K (.ref D) "__getattribute__" = some (some (.builtin "BaseException.__getattribute__"))) (hgt : findIn K (.ref D) "__getattr__" = some none) (hsub : subIn K (.ref D) (.type "BaseException") = some true)
    (hdct : hasDictIn K D = true) (ha : findIn K (.ref D) "__class__" = some (some (.builtin "object.__class__")))
    (hn : specialIn K (.builtin "object.__class__") "__get__" = some (some (.builtin "getset_descriptor.__get__"))) (htk : takesIn K (.builtin "object.__class__") = some true) (hm : mroIn K D (.type "object") = some true)
    (X : K.In s.heap) (I : InstAt s.heap x ox D (some od)) (h : Q (some (.ref D)) { s with toks := s.toks + 1 }) : wpAny (model prog w) A (getAttr? (.ref x) "__class__") Q E s := by
  have hf : findObj K D (some od) "__class__" = some (.bind (.builtin "getset_descriptor.__get__") (.builtin "object.__class__")) := findObj_data (by obtain ⟨cd, hc, _⟩ := any_some hdct; rw [hc]; rfl) ha hn htk
  obtain ⟨hp, g, d, t, os⟩ := s
  have L0 := I.type (M := model prog w)
  have L1 := looks_findIn (M := model prog w) X hga
  have L2 := looks_findIn (M := model prog w) X hgt
  have L3 := looks_find (M := model prog w) X I hf
  have sub : Looks (model prog w) hp (isInstance (.ref x) (.type "BaseException")) true := L0.andThen (looks_subIn X hsub)
  have hx0 : (false && onTheHeap (Value.builtin "BaseException.__getattribute__")) = false := rfl
  have hx2 : (Value.builtin "BaseException.__getattribute__" == Value.builtin "object.__getattribute__") = false := by decide +kernel
  have hx1 : (onTheHeap (Value.ref D) && Value.builtin "BaseException.__getattribute__" == Value.builtin "object.__getattribute__") = false := by rw [hx2]; rfl
  unfold getAttr? getAttrBy? getAttrBy
  refine wpAny_bind (wpAny_mkText (wpAny_bind (wpAny_attempt (wpAny_holding (wpAny_bind (L0.at (wpAny_bind (L1.at ?_))))))))
  show wpAny _ _ (if (onTheHeap (Value.ref D) && Value.builtin "BaseException.__getattribute__" == Value.builtin "object.__getattribute__") = true then _ else _) _ _ _
  rw [hx1, if_neg Bool.false_ne_true]
  unfold getAttrByItsOwn hookBefore
  refine wpAny_bind ?_
  rw [if_pos (show onTheHeap (Value.ref D) = true from rfl)]
  refine L2.at ?_
  refine wpAny_bind (wpAny_attempt (wpAny_holding ?_))
  unfold callGetattribute
  rw [hx0, if_neg Bool.false_ne_true]
  unfold boundAndCalled
  rw [PySem.F.excAttr_ValueError.ga.bind (.ref x)]
  refine wpAny_bind (wpAny_pure ?_)
  show wpAny _ _ (call (.builtin "BaseException.__getattribute__") [.ref x, .str "__class__" t]) _ _ _
  refine wpAny_call (codeAny_call_builtin PySem.F.excAttr_ValueError.ga.plain PySem.F.entry_bexc_ga ?_)
  refine @check_slot (model prog w) _ _ ⟨hp, g, d, t + 1, os⟩ "BaseException.__getattribute__" "BaseException" "__getattribute__" (.ref x) [.str "__class__" t] [] _ (by decide +kernel) (by decide +kernel) sub (PySem.F.args_bexc_ga (.ref x) (.str "__class__" t)) ?_
  unfold Builtin.«object.__getattribute__»
  refine wpAny_bind (wpAny_of_eq (a := ((Value.ref x : Value), [Value.str "__class__" t])) (by first | rfl | (simp only [slotArgs]; rfl)) ?_)
  refine wpAny_bind (wpAny_pure (wpAny_bind (L0.at (wpAny_bind (L3.at ?_)))))
  show wpAny _ _ (holding [Value.builtin "object.__class__"] (call (.builtin "getset_descriptor.__get__") [.builtin "object.__class__", .ref x, .ref D]) >>= ret) _ _ _
  refine wpAny_bind (wpAny_holding (wpAny_call (class_get (s := ⟨hp, g, d, t + 1, os⟩) (ox := ox) (od := some od) X I hm ?_)))
  refine wpAny_pure ?_
  show wpAny _ _ (handedOut (.ref D)) _ _ _
  rw [handedOut_of (v := .ref D) rfl]
  first
    | exact wpAny_pure (wpAny_pure h)
    | exact wpAny_pure h
    | exact wpAny_pure (wpAny_bind (wpAny_pure (wpAny_pure h)))
theorem kitx_excX (hga : findIn K (.ref D) "__getattribute__" = some (some (.builtin "BaseException.__getattribute__"))) (hgt : findIn K (.ref D) "__getattr__" = some none) (hsub : subIn K (.ref D) (.type "BaseException") = some true) (hdct : hasDictIn K D = true) (ha : findIn K (.ref D) "__class__" = some (some (.builtin "object.__class__")))
    (hn : specialIn K (.builtin "object.__class__") "__get__" = some (some (.builtin "getset_descriptor.__get__"))) (htk : takesIn K (.builtin "object.__class__") = some true) (hm : mroIn K D (.type "object") = some true) :
    KitX K (.ref x) (.ref D) (fun h => InstAt h x ox D (some od)) where
  ty := fun _ _ _ I => I.type
  it := fun _ _ X _ => by
    obtain ⟨cdD, hcD, _⟩ := any_some hdct
    unfold clsIn at hcD
    split at hcD
    · rename_i c' d' cd' sl' ho
      intro A' Q' E' s' k q
      unfold isType loadHead
      exact wpAny_bind (wpAny_loadPart (k _ _ (X _ _ ho)) (wpAny_pure q))
    · cases hcD
  ne := (handS_kitx_exc (x := x) (ox := ox) hga hgt hsub hdct ha hn htk hm).ne
  ca := fun X I k => kin_classX hga hgt hsub hdct ha hn htk hm X I k
end
end PySem.W
namespace L2
open PySem PySem.Spec PyProof.Rows
/-- isinstance(e, c) or isinstance(e, (c1, ..)), e the error that the suite holds, its class cls, its dict d -/
def rIsX (K : PySem.W.Frag) (a : Addr) (cls : Value) (d : Option Addr) : List V → Hp → VK → Prop := fun xs H Q => ∃ (c : V) (C dd : Addr) (fs : List (Str × V)) (b : Bool), xs = [.ref a, c] ∧ cls = .ref C ∧ d = some dd ∧ H dd = some (.xd fs) ∧ ExcC K C ∧
  ((∃ cv, ClsV c cv ∧ PySem.W.kitOne K (.ref C) cv = some b) ∨ ∃ (tp : Addr) (cs : List V) (us : List Value), c = .ref tp ∧ H tp = some (.tup cs) ∧ Paired ClsV cs us ∧ PySem.W.kitAny K (.ref C) us = some b) ∧ Q (.bl b) H
theorem call_isX {X : Cx} {a : Addr} {oe : Obj} {cls : Value} {d : Option Addr} (hp : (a, oe) ∈ X.pn) (hz : Zc cls d oe) (hf : ∃ vs, oe.data = .fields vs) : CallR X (.builtin "isinstance") (rIsX X.K a cls d) := by
  intro pins s σ H xs us Q I r h
  obtain ⟨c, D, dd, fs, b, rfl, rfl, rfl, hdd, C, hc, q⟩ := h
  obtain ⟨u1, u2, rfl, r1, r2⟩ := vals2 r
  cases (show u1 = Value.ref a from r1)
  obtain ⟨hget, _⟩ := I.pin (a, oe) (List.mem_append_left _ hp)
  obtain ⟨vs, hv⟩ := hf
  have hx : ObjOk X.prog X.w H s.heap dd (.xd fs) := I.hok dd _ hdd
  obtain ⟨mA, hns, _⟩ := hx
  obtain ⟨od, ho, _⟩ := lookIn_ns hns
  have J : PySem.W.InstAt s.heap a oe D (some od) := ⟨hget, hz.1, by unfold PySem.W.notCls; rw [hv] <;> rfl, by rw [hz.2]; exact ho⟩
  have Z := PySem.W.kitx_excX (x := a) (ox := oe) (od := od) C.hg C.hk C.hs C.hd C.ha C.hn C.ht C.hm
  rcases hc with ⟨cv, kc, e⟩ | ⟨tp, cs, ws, rfl, hT, k, e⟩
  · have e2 := kc.eq r2
    subst e2
    exact PySem.W.kia_one Z I.kIn J e (fun z => nomatch z) fun tk => ⟨.bl b, H, I.kept (t' := tk) fun _ _ z => z, rfl, q⟩
  · cases (show u2 = Value.ref tp from r2)
    obtain ⟨_, its, rv, o, h1, h2, n, h3⟩ := (show ObjOk X.prog X.w H s.heap tp (.tup cs) from I.hok tp _ hT)
    have e3 := ClsV.all k rv
    subst e3
    obtain ⟨oc, od', dt, sl⟩ := o
    simp only at h2 h3
    subst h2 h3
    exact PySem.W.kia_tup Z I.kIn J h1 e (fun z => nomatch z) fun tk => ⟨.bl b, H, I.kept (t' := tk) fun _ _ z => z, rfl, q⟩
/-! ### calls within a try: what may be let out, at the slots as they stand -/
section
variable {X : Cx} {CX : CXT} {k : Nat} {f C : Addr} {fd : FuncData} {ps : List Str} {sp : Sp} {dvs : List V} {ds : List Value} {E : St → XK} {x m : Str} {p pos apos : Pos} {e o : Expr} {es : List Expr} {ta : TE} {t : TA}
theorem run_fnT {pins : List (Addr × Obj)} {σ : St} {H : Hp} {s : Shared} {Q : VK} {us : List Value} {vs : List V} (F : FnOk X.prog X.w X.K X.mg X.base CX k f fd ps sp) (hr : Room k X.A) (hb : Binds X.K fd ps ds) (hd : Vals dvs ds) (hx : PassesAt CX X σ (E σ))
    (I : Inv X pins σ H s) (r : Vals vs us) (h : sp (vs ++ dvs) H Q (E σ)) : wpAny (model X.prog X.w) X.A (call (.ref f) us) (EP X pins σ Q) X.xe s := by
  have r2 : Vals (vs ++ dvs) (us ++ ds) := r.append hd
  have hl : (us ++ ds).length = ps.length := by rw [← r2.length]; exact F.len _ _ _ _ h
  refine wpAny_call (codeAny_mono (F.run X.A X.stack s H ⟨us, []⟩ (us ++ ds) (vs ++ dvs) Q (E σ) hr I.env0 (hb s us I.kIn hl) r2 h) fun r s' hq => ?_)
  cases r with
  | error e => exact hx pins H s e s' I hq
  | ok fl =>
    cases fl with
    | ret u => exact I.after hq
    | next => exact False.elim hq
    | brk => exact False.elim hq
    | cont => exact False.elim hq
def tMethT (C : Addr) (m : Str) (sp : Sp) (dvs : List V) (E : St → XK) (ta : TE) (t : TA) : TE := fun σ H Q => ta σ H fun x H1 => ∃ a dx fs, x = .ref a ∧ H1 a = some (.ins C dx fs) ∧ fs.lookup m = none ∧ t σ H1 fun vs H2 => sp (x :: (vs ++ dvs)) H2 Q (E σ)
theorem pe_methT {pl : Sem Bool} (he : PE X o ta) (c : Cls X.K C) (hm : Meth X.K C m f) (F : FnOk X.prog X.w X.K X.mg X.base CX k f fd ps sp) (hr : Room k X.A) (hb : Binds X.K fd ps ds) (hd : Vals dvs ds) (hx : ∀ σ, PassesAt CX X σ (E σ)) (ha : PA X (e :: es) t)
    (hst : starEach (e :: es) X.env = (false, eval e X.env) :: starEach es X.env := by rfl) (hpl : (backTo pos (starEach es X.env)).any (·.1) = false := by rfl)
    (ht : eval (.Call (.Attribute o m apos) (e :: es) [] pos) X.env = (do
      let ov ← eval o X.env
      standAt apos.atName
      let (f, first) ← holding [ov] (getMethod ov m pl)
      callWith pos f first (backTo pos (starEach (e :: es) X.env)) (backToKw pos (keywordEach [] X.env))) := by rfl) :
    PE X (.Call (.Attribute o m apos) (e :: es) [] pos) (tMethT C m sp dvs E ta t) := by
  refine ⟨fun pins s σ H Q I h => ?_⟩
  refine PySem.W.methodCall_KW (pl := pl) (thn (he.run pins s σ H _ I h) fun u s1 ⟨x, H1, I1, rx, a, dx, fs, ex, ea, l, q⟩ => ?_) ht
  subst ex
  obtain rfl : u = Value.ref a := rx
  refine getmeth_ok I1 ea c hm l ?_
  refine PySem.W.callWith_K (first := [.ref a]) (h₀ := X.base) I.ok.mod.kin hm.kp (thn (ha.run pos pins s1 σ H1 _ I1 q) fun us s2 ⟨vs, H2, I2, r, q2⟩ => ⟨I2.kIn, ?_⟩) hst hpl
  exact run_fnT (us := .ref a :: us) (vs := .ref a :: vs) F hr hb hd (hx σ) I2 (.cons rfl r) q2
def tMakeT (C : Addr) (sp : Sp) (dvs : List V) (E : St → XK) (t : TA) : TE := fun σ H Q => t σ H fun vs H1 => ∀ x dx, H1 x = none → H1 dx = none → dx ≠ x → sp (.ref x :: (vs ++ dvs)) (upd (upd H1 dx (.own x)) x (.ins C dx [])) (fun v H2 => v = .non ∧ Q (.ref x) H2) (E σ)
theorem pe_makeT (M : Mk X.K C f) (F : FnOk X.prog X.w X.K X.mg X.base CX k f fd ps sp) (hr : Room (k + 1) X.A) (hg : Gl X x) (hm : X.mg x = some (.ref C)) (hb : Binds X.K fd ps ds) (hd : Vals dvs ds) (hx : ∀ σ, PassesAt CX X σ (E σ))
    (ha : PA X (e :: es) t) (hdb : (x == ("__debug__" : Str)) = false := by decide) (he : starEach (e :: es) X.env = (false, eval e X.env) :: starEach es X.env := by rfl) (hpl : (backTo pos (starEach es X.env)).any (·.1) = false := by rfl) :
    PE X (.Call (.Name x p) (e :: es) [] pos) (tMakeT C sp dvs E t) := by
  refine ⟨fun pins s σ H Q I h => ?_⟩
  refine wpAny_Call_Name_kw (ld_glob I hg hm ?_ hdb)
  refine PySem.W.callWith_K (h₀ := X.base) I.ok.mod.kin M.kp (thn (ha.run pos pins s σ H _ I h) fun us s1 ⟨vs, H1, I1, r, h⟩ => ⟨I1.kIn, ?_⟩) he hpl
  have hq := h (s1.heap.objs.size + 1) s1.heap.objs.size (I1.hok.fresh (Nat.le_succ _)) (I1.hok.fresh (Nat.le_refl _)) (Nat.ne_of_lt (Nat.lt_succ_self _))
  have I2 := Inv.made (C := C) I1
  have r2 : Vals (V.ref (s1.heap.objs.size + 1) :: (vs ++ dvs)) (Value.ref (s1.heap.objs.size + 1) :: (us ++ ds)) := .cons rfl (r.append hd)
  have hl : (Value.ref (s1.heap.objs.size + 1) :: us ++ ds).length = ps.length := by
    have e := r2.length
    rw [F.len _ _ _ _ hq] at e
    exact e.symm
  refine wpAny_call (make_map (f := f) I1.kIn M.makes M.init (beq_iff_eq.mp M.fn) (codeAny_mono (F.run _ X.stack _ _ ⟨Value.ref (s1.heap.objs.size + 1) :: us, []⟩ (Value.ref (s1.heap.objs.size + 1) :: (us ++ ds)) _ _ (E σ) (hr.make C us [])
    (I2.env0.make C us []) (hb _ (Value.ref (s1.heap.objs.size + 1) :: us) I2.kIn hl) r2 hq) fun r s' hq' => ?_))
  cases r with
  | error e => exact hx σ pins _ _ e s' I2 hq'
  | ok fl =>
    cases fl with
    | ret u =>
      obtain ⟨v, H', I3, rv, ev, q3⟩ := I2.after hq'
      subst ev
      exact ⟨rv, ⟨V.ref (s1.heap.objs.size + 1), H', I3, rfl, q3⟩⟩
    | next => exact False.elim hq'
    | brk => exact False.elim hq'
    | cont => exact False.elim hq'
end
/-! ### an own error of one field -/
/-- X(v): self.f = v; what __init__ promises -/
def spErr (K : PySem.W.Frag) (f : Str) : Sp := fun vs H Q _ => ∃ (a C : Addr) (v : V), vs = [.ref a, v] ∧ H a = some (exo a C none) ∧ OexC K C ∧ PySem.W.findIn K (.ref C) f = some none ∧ ∀ dx, H dx = none → dx ≠ a → Q .non (upd (upd H dx (exd dx [(f, v)])) a (exo a C (some dx)))
theorem upd_del (H : Hp) (a d : Addr) (o1 o2 o3 o4 : HO) (ha : H a = none) (hd : d ≠ a) : upd (del (upd (upd (upd H a o1) d o2) a o3) a) d o4 = upd H d o4 := by
  funext b
  by_cases h : b = d
  · subst h
    rw [upd_same, upd_same]
  · rw [upd_ne h, upd_ne h]
    by_cases h2 : b = a
    · subst h2
      rw [del_same, ha]
    · rw [del_ne h2, upd_ne h2, upd_ne h, upd_ne h2]
theorem w_mkErr {K : PySem.W.Frag} {C : Addr} {f : Str} {ta : TA} {σ : St} {H : Hp} {Q : XK} (o : OexC K C) (n : PySem.W.findIn K (.ref C) f = some none) (q : ta σ H fun vs H1 => ∃ v, vs = [v] ∧ ∀ d, H1 d = none → Q (.ref C) (some d) (upd H1 d (.xd [(f, v)]))) (hm : ∀ {QA QB : List V → Hp → Prop}, (∀ vs H1, QA vs H1 → QB vs H1) → ta σ H QA → ta σ H QB) : tMkO C (spErr K f) [] ta σ H Q := by
  refine hm (fun vs H1 ⟨v, ev, hq⟩ => ?_) q
  subst ev
  refine ⟨by show 1 ≤ 1000; omega, fun a ha => ⟨a, C, v, rfl, upd_same, o, n, fun dx hdx hne => ?_⟩⟩
  rw [upd_ne hne] at hdx
  refine ⟨rfl, dx, [(f, v)], upd_same, (upd_ne hne).trans upd_same, hdx, ?_⟩
  rw [upd_del H1 a dx _ _ _ _ ha hne]
  exact hq dx hdx
end L2

namespace L2
open PySem PySem.Spec PyProof.Rows
/-! ### own errors: what is asked of their classes; readings -/
structure ErrN (K : PySem.W.Frag) (C : Addr) : Prop where
  isc : PySem.W.isClsIn K C = true
  typ : PySem.W.typeIn K (.ref C) = some (.type "type")
  exB : PySem.W.subIn K (.ref C) (.type "BaseException") = some true
  hd : PySem.W.hasDictIn K C = true
section
variable {K : PySem.W.Frag} {C D : Addr} {H : Hp} {Q : VK} {b : Bool} {a dd : Addr} {fs : List (Str × V)} {σ : St}
theorem kit_sub (e : ErrN K D) (self : PySem.W.subIn K (.ref C) (.ref C) = some true) (h : PySem.W.subIn K (.ref C) (.ref D) = some b) : PySem.W.kitOne K (.ref C) (.ref D) = some b := by
  unfold PySem.W.kitOne
  by_cases q : C = D
  · subst q
    rw [self] at h
    cases h
    exact if_pos (beq_self_eq_true _)
  · rw [if_neg (by intro z; exact q (Value.ref.inj (beq_iff_eq.mp z)))]
    have h1' : (PySem.W.clsIn K D).isSome = true := e.isc
    show (if ((PySem.W.clsIn K D).isSome && PySem.W.typeIn K (.ref D) == some (.type "type")) = true then PySem.W.subIn K (.ref C) (.ref D) else none) = some b
    rw [if_pos (by rw [h1', e.typ]; rfl)]
    exact h
theorem kit_VE (h : PySem.W.subIn K (.ref C) (.type "ValueError") = some true) : PySem.W.kitOne K (.ref C) (.type "ValueError") = some true := by
  unfold PySem.W.kitOne
  rw [if_neg (by intro z; cases (beq_iff_eq.mp z))]
  show (if PySem.W.kitMeta "ValueError" = true then PySem.W.subIn K (.ref C) (.type "ValueError") else none) = some true
  rw [if_pos (by decide +kernel)]
  exact h
theorem kit_nil : PySem.W.kitAny K (.ref C) [] = some false := rfl
theorem kit_cons {c : Value} {r : List Value} (h : PySem.W.kitOne K (.ref C) c = some false) (h2 : PySem.W.kitAny K (.ref C) r = some b) : PySem.W.kitAny K (.ref C) (c :: r) = some b := by
  unfold PySem.W.kitAny
  rw [h]
  exact h2
theorem kit_hit {c : Value} {r : List Value} (h : PySem.W.kitOne K (.ref C) c = some true) : PySem.W.kitAny K (.ref C) (c :: r) = some true := by
  unfold PySem.W.kitAny
  rw [h]
theorem exm_sub (e : ErrN K D) (h : PySem.W.subIn K (.ref C) (.ref D) = some b) : PySem.W.exmOne K (.ref C) (.ref D) = some b := PySem.W.exm_ref e.exB e.hd e.typ h
theorem w_isX (hd : H dd = some (.xd fs)) (ec : ExcC K C) (e : ErrN K D) (self : PySem.W.subIn K (.ref C) (.ref C) = some true) (h : PySem.W.subIn K (.ref C) (.ref D) = some b) (q : Q (.bl b) H) : rIsX K a (.ref C) (some dd) [.ref a, .ref D] H Q :=
  ⟨_, C, dd, fs, b, rfl, rfl, rfl, hd, ec, .inl ⟨_, .own D, kit_sub e self h⟩, q⟩
theorem w_isXV (hd : H dd = some (.xd fs)) (ec : ExcC K C) (h : PySem.W.subIn K (.ref C) (.type "ValueError") = some true) (q : Q (.bl true) H) : rIsX K a (.ref C) (some dd) [.ref a, .ty "ValueError"] H Q :=
  ⟨_, C, dd, fs, true, rfl, rfl, rfl, hd, ec, .inl ⟨_, .ty _, kit_VE h⟩, q⟩
theorem w_isXT {tp : Addr} {cs : List V} {us : List Value} (hd : H dd = some (.xd fs)) (ec : ExcC K C) (ht : H tp = some (.tup cs)) (hp : Paired ClsV cs us) (hk : PySem.W.kitAny K (.ref C) us = some b) (q : Q (.bl b) H) : rIsX K a (.ref C) (some dd) [.ref a, .ref tp] H Q :=
  ⟨_, C, dd, fs, b, rfl, rfl, rfl, hd, ec, .inr ⟨tp, cs, us, rfl, ht, hp, hk⟩, q⟩
theorem w_xf {f : Str} {te : TE} {v : V} (q : te σ H fun x H1 => x = .ref a ∧ H1 dd = some (.xd fs) ∧ fs.lookup f = some v ∧ Q v H1) (hm : ∀ {QA QB : VK}, (∀ x H1, QA x H1 → QB x H1) → te σ H QA → te σ H QB) : tXf a (.ref C) (some dd) C f te σ H Q :=
  hm (fun _ _ ⟨h1, h2, h3, h4⟩ => ⟨h1, rfl, dd, fs, v, rfl, h2, h3, h4⟩) q
theorem w_xfV {f : Str} {i : Nat} {v : V} (hi : σ[i]? = some (some (.ref a))) (hd : H dd = some (.xd fs)) (hl : fs.lookup f = some v) (q : Q v H) : tXf a (.ref C) (some dd) C f (tVar i) σ H Q :=
  ⟨.ref a, hi, rfl, rfl, dd, fs, v, rfl, hd, hl, q⟩
theorem w_mkErrV {f : Str} {i : Nat} {v : V} {QX : XK} (o : OexC K C) (n : PySem.W.findIn K (.ref C) f = some none) (h : σ[i]? = some (some v)) (q : ∀ d, H d = none → QX (.ref C) (some d) (upd H d (.xd [(f, v)]))) : tMkO C (spErr K f) [] (tCons (tVar i) tNil) σ H QX :=
  w_mkErr o n ⟨v, h, ⟨v, rfl, q⟩⟩ fun hq ⟨x, hx, z⟩ => ⟨x, hx, hq _ _ z⟩
theorem w_makeT {C : Addr} {sp : Sp} {dvs : List V} {E : L2.St → XK} {t : TA} {σ : L2.St} {H : Hp} {Q : VK} (q : t σ H fun vs H1 => ∀ x dx, H1 x = none → H1 dx = none → dx ≠ x → sp (.ref x :: (vs ++ dvs)) (upd (upd H1 dx (.own x)) x (.ins C dx [])) (fun v H2 => v = .non ∧ Q (.ref x) H2) (E σ)) : tMakeT C sp dvs E t σ H Q := q
theorem w_methT {C : Addr} {m : Str} {sp : Sp} {dvs : List V} {E : L2.St → XK} {ta : TE} {t : TA} {σ : L2.St} {H : Hp} {Q : VK} (q : ta σ H fun x H1 => ∃ a dx fs, x = .ref a ∧ H1 a = some (.ins C dx fs) ∧ fs.lookup m = none ∧ t σ H1 fun vs H2 => sp (x :: (vs ++ dvs)) H2 Q (E σ)) : tMethT C m sp dvs E ta t σ H Q := q
theorem w_callS {sp : Sp} {E : L2.St → XK} {t : TA} {σ : L2.St} {H : Hp} {Q : VK} (q : t σ H fun vs H1 => sp vs H1 Q (E σ)) : tCallS sp E t σ H Q := q
end
end L2

namespace L2
open PySem PySem.Spec PyProof.Rows
/-! ### defs that may ask for the repr of lists and tuples: they are called where no repr is under way -/
/-- as FnOk, but only where no repr is under way -/
structure FnG (P : Program) (w : World) (K : PySem.W.Frag) (mg : Str → Option Value) (base : Heap) (CX : CXT) (k : Nat) (f : Addr) (fd : FuncData) (ps : List Str) (sp : Sp) : Prop where
  len : ∀ vs H Q E, sp vs H Q E → vs.length = ps.length
  run : ∀ (A : Around) (outer : List Env) (s : Shared) (H : Hp) (args : Args) (us : List Value) (vs : List V) (Q : VK) (E : XK), A.guards = some [] → Room k A → Env0 P w K mg base A outer s H → BindsTo s fd args (ps.zip us) → Vals vs us → sp vs H Q E →
    codeAny (model P w) A (.call (.ref f) args) (CR CX outer P w H s Q E) s
section
variable {P : Program} {w : World} {K : PySem.W.Frag} {mg : Str → Option Value} {base : Heap} {CX : CXT}
theorem FnOk.toG {k : Nat} {f : Addr} {fd : FuncData} {ps : List Str} {sp : Sp} (F : FnOk P w K mg base CX k f fd ps sp) : FnG P w K mg base CX k f fd ps sp := ⟨F.len, fun A outer s H args us vs Q E _ hr => F.run A outer s H args us vs Q E hr⟩
/-- the body of such a def -/
theorem Fun.okG {x qual : Str} {st : Stmt} {f : Addr} {fd : FuncData} {N ps : List Str} {k : Nat} {sp : Sp} (F : Fun K x qual st f fd) (S : FnScope N ps (defScope st)) (len : ∀ vs H Q E, sp vs H Q E → vs.length = ps.length)
    (hbody : ∀ (cdv : Value) (A : Around) (outer : List Env) (s : Shared) (H : Hp) (vs : List V) (Q : VK) (E : XK), A.guards = some [] → Room k (A.deeper (envOfC qual (defScope st) s.heap.objs.size f cdv)) → sp vs H Q E →
      ∃ t, PSs (cxOf CX0 P w K mg base N qual (defScope st) f cdv A outer s H E).nox (defBody st) t ∧ t { nx := fun _ H' => Q .non H', rt := Q } (start N vs) H) : FnG P w K mg base CX0 (k + 1) f fd ps sp := by
  obtain ⟨oc, od, kV, doc, pm, an, cdv, ct, osl, rfl, lk, hcd⟩ := F.ex
  refine ⟨len, fun A outer s H args us vs Q E hA hr e0 hb r hsp => ?_⟩
  have hl := len _ _ _ _ hsp
  have kept : ∀ b o, base.get? b = some o → s.heap.get? b = some o := fun b o e => (e0.bs b o e).1
  have seen := e0.mod.kin.keeps kept
  refine codeAny_call_function hr.depth (seen _ _ lk) rfl S.co S.gen rfl (PySem.W.codeRec_of seen hcd) (hb _ _ _ _ (wpAny_newFunctionEnv_cells S.kind (fun ⟨n, v⟩ hy => ?_) fun env he s1 x => ?_))
  · exact (S.par n (List.of_mem_zip hy).1).imp id fun q => ⟨q, PySem.W.cellsFrom_some _ _ _ (.inl q)⟩
  · subst he
    obtain ⟨t, ht, hq⟩ := hbody cdv A outer s H vs Q E hA (hr.deeper _) hsp
    have I := inv_start (CX := CX0) (E := E) S hr.hd e0 hl r x
    refine ⟨(e0.mod.nolimit.keeps kept).keeps x.toInCall.keep, codeAny_func (wpAny_mono (ht.nox.run [] s1 (start N vs) H _ I hq) (fun fl s' hs => ?_) fun _ _ hs => hs)⟩
    cases fl with
    | next =>
      obtain ⟨_, H', J, q⟩ := hs
      exact ⟨.non, H', J.os, J.bare, J.base, J.hok, rfl, q⟩
    | ret u =>
      obtain ⟨v, _, H', J, rv, q⟩ := hs
      exact ⟨v, H', J.os, J.bare, J.base, J.hok, rv, q⟩
    | brk =>
      obtain ⟨_, _, _, q⟩ := hs
      exact q.elim
    | cont =>
      obtain ⟨_, _, _, q⟩ := hs
      exact q.elim
end
section
variable {X : Cx} {CX : CXT} {k : Nat} {f : Addr} {fd : FuncData} {ps : List Str} {sp : Sp} {E : XK} {x : Str} {p pos : Pos} {e : Expr} {es : List Expr} {t : TA}
/-- f(e, ..) of such a def -/
theorem pe_callG (F : FnG X.prog X.w X.K X.mg X.base CX k f fd ps sp) (hA : X.A.guards = some []) (hr : Room k X.A) (hg : Gl X x) (hm : X.mg x = some (.ref f)) (hk : PySem.W.keepIn X.K (.ref f) = true) (hb : Binds X.K fd ps []) (hx : Passes CX X E)
    (ha : PA X (e :: es) t) (hdb : (x == ("__debug__" : Str)) = false := by decide) (he : starEach (e :: es) X.env = (false, eval e X.env) :: starEach es X.env := by rfl) (hpl : (backTo pos (starEach es X.env)).any (·.1) = false := by rfl) :
    PE X (.Call (.Name x p) (e :: es) [] pos) (tCall sp [] E t) := by
  refine ⟨fun pins s σ H Q I h => wpAny_Call_Name_kw (ld_glob I hg hm ?_ hdb)⟩
  refine PySem.W.callWith_K (h₀ := X.base) I.ok.mod.kin hk (thn (ha.run pos pins s σ H _ I h) fun us s1 ⟨vs, H1, J, r, q⟩ => ⟨J.kIn, ?_⟩) he hpl
  have q : sp vs H1 Q E := by
    have h : sp (vs ++ []) H1 Q E := q
    rwa [List.append_nil] at h
  show wpAny _ _ (call (.ref f) us) _ _ _
  have b := hb s1 us J.kIn (by rw [List.append_nil, ← r.length]; exact F.len _ _ _ _ q)
  rw [List.append_nil] at b
  refine wpAny_call (codeAny_mono (F.run X.A X.stack s1 H1 ⟨us, []⟩ us vs Q E hA hr J.env0 b r q) fun r' s' z => ?_)
  match r', z with
  | .error e, z => exact hx pins σ H1 s1 e s' J z
  | .ok (.ret u), z => exact J.after z
  | .ok .next, z => exact False.elim z
  | .ok .brk, z => exact False.elim z
  | .ok .cont, z => exact False.elim z
/-- repr(v) of plain data -/
def rRepr (K : PySem.W.Frag) : List V → Hp → VK → Prop := fun xs H Q => ∃ (x : V) (d : PyData), xs = [x] ∧ Dp K H x d ∧ d.showable = true ∧ d.hasDict = false ∧ d.depth ≤ 30 ∧ (d.shown.length ≤ 10000 ∨ ∃ i, d = .int i) ∧ Q (.str d.shown) H
theorem call_reprG {X : Cx} (hA : X.A.guards = some []) (hu : X.A.units + 64 < cLine) : CallR X (.builtin "repr") (rRepr X.K) := by
  intro pins s σ H xs us Q I r h
  obtain ⟨x, d, rfl, hd, hs, hn, hdp, hz, q⟩ := h
  obtain ⟨u, rfl, rx⟩ := vals1 r
  obtain ⟨as, rd⟩ := Dp.reads I d x u hd rx
  have fits : (∀ i, d ≠ .int i) → d.shown.length ≤ sizeLine := fun h => by
    rcases hz with z | ⟨i, z⟩
    · rw [sizeLine_eq]; omega
    · exact absurd z (h i)
  cases hd with
  | non => cases (show u = Value.none from rx); exact PySem.P.repr_of_none ⟨.str (PyData.shown .none), H, I.tok _, ⟨_, rfl⟩, q⟩
  | bl b => cases (show u = Value.bool b from rx); exact PySem.P.repr_of_bool ⟨.str (PyData.shown (.bool b)), H, I.tok _, ⟨_, rfl⟩, q⟩
  | int i =>
    obtain ⟨t, rfl⟩ := (show ∃ t, u = Value.int i t from rx)
    exact PySem.P.repr_of_int (of_decide_eq_true hs) ⟨.str (PyData.shown (.int i)), H, I.tok _, ⟨_, rfl⟩, q⟩
  | str z =>
    obtain ⟨t, rfl⟩ := (show ∃ t, u = Value.str z t from rx)
    exact PySem.P.repr_of_str ⟨.str (PyData.shown (.str z)), H, I.tok _, ⟨_, rfl⟩, q⟩ (fits fun _ z => by cases z)
  | lst _ _ =>
    cases (show u = Value.ref _ from rx)
    exact repr_of_reads' rd hs (fun z => by rw [hn] at z; cases z) hA (by omega) (fun _ _ e => e) (fun h' t tk hk => ⟨.str (PyData.shown _), H, I.kept hk, ⟨_, rfl⟩, q⟩) (fits fun _ z => by cases z)
  | tup _ _ =>
    cases (show u = Value.ref _ from rx)
    exact repr_of_reads' rd hs (fun z => by rw [hn] at z; cases z) hA (by omega) (fun _ _ e => e) (fun h' t tk hk => ⟨.str (PyData.shown _), H, I.kept hk, ⟨_, rfl⟩, q⟩) (fits fun _ z => by cases z)
end
end L2
namespace L2
open PySem PySem.Spec PyProof.Rows
/-- the law's def, asked at the top, where no repr is under way -/
theorem law_askG {P : Program} {w : World} {K : PySem.W.Frag} {mg mb : Str → Option Value} {CX : CXT} {k : Nat} {fa a : Addr} {fd : FuncData} {x : Str} {sp : Sp} {s₁ : Shared} {vs : List Value} {ns : List Int}
    (KX : K.In s₁.heap) (hns : s₁.heap.Ns mainGlobals mg) (hb : s₁.heap.Ns builtinsNs mb) (hbb : ∀ x : Str, x ≠ "__name__" → mb x = bootBuiltins x) (hlim : s₁.heap.NoLimit) (hg : s₁.gens = #[])
    (ha : s₁.heap.get? a = some { cls := .type "list", data := .seq vs.toArray }) (hi : IntsAre vs ns) (hl : ns.length ≤ sizeLine) (hr : Room k callerA)
    (F : ∀ base : Heap, K.In base → base.Ns mainGlobals mg → FnG P w K mg base CX k fa fd [x] sp) (hbind : ∀ (s : Shared) (u : Value), BindsTo s fd ⟨[u], []⟩ [(x, u)])
    (hsp : ∀ H : Hp, Only H → SqL K H a (ns.map V.int) → sp [.ref a] H (fun v _ => v = .bl true) fun _ _ _ => False)
    (hCX : ∀ H e s', CX [] H s₁ (fun _ _ _ => False) e s' → False) :
    codeAny (model P w) callerA (.call (.ref fa) ⟨[.ref a], []⟩) (fun r s' => r = .ok (.ret (.bool true)) ∧ OldK s₁.heap s'.heap ∧ s'.os = s₁.os ∧ AllBare s'.gens) s₁ := by
  have rv := vals_ints hi
  -- what is told of the heap: the script, if it is none of the module's own objects
  obtain ⟨H, hH, hS, hok, hK⟩ : ∃ H : Hp, (∀ b, H b = none ∨ (b = a ∧ ∃ o xs, H b = some (.frz o (.lst xs)))) ∧ SqL K H a (ns.map V.int) ∧ HOk P w H s₁.heap ∧ (∀ b o, K.lookup b = some o → H b = none) := by
    cases hk : K.lookup a with
    | some o =>
      obtain rfl : o = { cls := .type "list", data := .seq vs.toArray } := Option.some.inj ((KX a o hk).symm.trans ha)
      exact ⟨fun _ => none, fun _ => .inl rfl, .inr ⟨_, vs.toArray, _, hk, rfl, rfl, rfl, by rw [List.size_toArray, hi.length]; exact hl, rv⟩, fun _ _ z => (by cases z), fun _ _ _ => rfl⟩
    | none =>
      refine ⟨fun b => if b = a then some (.frz { cls := .type "list", data := .seq vs.toArray } (.lst (ns.map V.int))) else none, fun b => ?_, .inl (.inr ⟨_, if_pos rfl⟩), fun b u z => ?_, fun b o hb => ?_⟩
      · by_cases e : b = a
        · exact .inr ⟨e, _, _, if_pos e⟩
        · exact .inl (if_neg e)
      · by_cases e : b = a
        · subst e
          cases (if_pos rfl).symm.trans z
          exact ⟨ha, by rw [List.length_map]; exact hl, vs, _, rv, ha⟩
        · cases (if_neg e).symm.trans z
      · refine if_neg fun e => ?_
        rw [e, hk] at hb
        cases hb
  have hO : Only H := fun b => (hH b).imp id fun h => h.2
  -- the ground: all but the script
  have keepNs : ∀ {b : Addr} {m : Str → Option Value}, s₁.heap.Ns b m → (hidT s₁.heap H).Ns b m := fun {b m} ⟨o, es, ep, e, d, r⟩ => by
    refine ⟨o, es, ep, hidT_get e ?_, d, r⟩
    rcases hH b with h | ⟨rfl, _⟩
    · exact h
    · cases ha.symm.trans e
      cases (show Data.seq vs.toArray _ = Data.dict es ep from d)
  have inK : K.In (hidT s₁.heap H) := fun b o e => hidT_get (KX b o e) (hK b o e)
  obtain ⟨mc, l1, l2⟩ := hlim
  have e0 : Env0 P w K mg (hidT s₁.heap H) callerA [] s₁ H := ⟨rfl, ⟨inK, keepNs hns, ⟨mb, keepNs hb, hbb⟩, ⟨mc, keepNs l1, l2⟩⟩, fun _ _ e => of_hidT e, Nat.le_of_eq (hidT_size _ _), trivial, fun _ z => (nomatch (show _ ∈ ([] : List Addr) from z)), hok, .of_eq hg⟩
  refine codeAny_mono ((F _ inK (keepNs hns)).run callerA [] s₁ H ⟨[.ref a], []⟩ [.ref a] [.ref a] _ _ rfl hr e0 (hbind s₁ (.ref a)) (.cons rfl .nil) (hsp H hO hS)) fun r s' h => ?_
  match r, h with
  | .error e, h => exact (hCX H e s' h).elim
  | .ok .next, h => exact False.elim h
  | .ok .brk, h => exact False.elim h
  | .ok .cont, h => exact False.elim h
  | .ok (.ret u), h =>
    obtain ⟨v, H', os, bare, un, hok', rv', hv⟩ := h
    obtain rfl : v = .bl true := hv
    obtain rfl : u = Value.bool true := rv'
    refine ⟨rfl, OldK.of_keep fun b o e => ?_, os, bare⟩
    rcases hH b with hb0 | ⟨_, ob, xs, hb0⟩
    · exact un.keep b o e hb0 (fun z => (nomatch (show b ∈ ([] : List Addr) from z))) (by simp)
    · obtain ⟨g1, _⟩ := hok b _ hb0
      cases g1.symm.trans e
      exact (hok' b _ (un.frzs b _ _ hb0)).1
theorem walk_ofG {l : PySem.W.OpenLaw} {n k : Nat} {q : Program} {loose : List Str} {XP : (Str → Option Value) → Heap → Prop} {YP : World → Heap → Prop} {d : DefRec} {K : Params → PySem.W.Frag} {CX : World → CXT} {sp : World → Sp} {x : Str}
    (hn : l.most = some n) (hn2 : n ≤ sizeLine) (hdf : d.params.defaults = []) (hr : Room k callerA) (hY : ∀ (w : World) (h : Heap), YP w h → (K w.params).In h)
    (F : ∀ (w : World) (mg : Str → Option Value) (fa : Addr) (h : Heap), (K w.params).In h → h.Ns mainGlobals mg → mg d.name = some (.ref fa) →
      ∃ fd : FuncData, (∀ (s : Shared) (u : Value), BindsTo s fd ⟨[u], []⟩ [(x, u)]) ∧ ∀ base : Heap, (K w.params).In base → base.Ns mainGlobals mg → FnG l.prog w (K w.params) mg base (CX w) k fa fd [x] (sp w))
    (hsp : ∀ (w : World) (H : Hp) (a : Addr) (ns : List Int), ns.length ≤ n → Only H → SqL (K w.params) H a (ns.map V.int) → sp w [.ref a] H (fun v _ => v = .bl true) fun _ _ _ => False)
    (hCX : ∀ (w : World) (H : Hp) (s : Shared) (e : Value) (s' : Shared), CX w [] H s (fun _ _ _ => False) e s' → False) :
    PySem.W.WalkO q loose XP YP l.row.toRowW d [] (fun f vs => PySem.call f vs) :=
  Att.attach_call hn hdf fun w s₀ s₁ mg mb fa o pm cd doc a vs ns G Y ho hd hcd hmg hobj hints hlen hg => by
    obtain ⟨fd, hb, hF⟩ := F w mg fa _ (hY w _ Y) G.T.g hmg
    exact law_askG (hY w _ Y) G.T.g G.T.b G.T.builtins G.T.nolimit hg hobj hints (Nat.le_trans hlen hn2) hr hF hb (fun H hO hS => hsp w H a ns hlen hO hS) fun H e s' => hCX w H s₁ e s'
end L2

namespace L2
open PySem PySem.Spec PyProof.Rows
/-! ### own errors whose context is told: raised, caught, handed on to a def -/
section
variable {P : Program} {w : World} {K : PySem.W.Frag} {mg : Str → Option Value} {base : Heap}
/-- a def that may raise -/
theorem Fun.okN {x qual : Str} {st : Stmt} {f : Addr} {fd : FuncData} {N ps : List Str} {k : Nat} {sp : Sp} (F : Fun K x qual st f fd) (S : FnScope N ps (defScope st)) (len : ∀ vs H Q E, sp vs H Q E → vs.length = ps.length)
    (hbody : ∀ (cdv : Value) (A : Around) (outer : List Env) (s : Shared) (H : Hp) (vs : List V) (Q : VK) (E : XK), Room k (A.deeper (envOfC qual (defScope st) s.heap.objs.size f cdv)) → sp vs H Q E →
      ∃ t, PSs (cxOf (L2N.CX P w) P w K mg base N qual (defScope st) f cdv A outer s H E) (defBody st) t ∧ t { nx := fun _ H' => Q .non H', rt := Q } (start N vs) H) : FnOk P w K mg base (L2N.CX P w) (k + 1) f fd ps sp := by
  obtain ⟨oc, od, kV, doc, pm, an, cdv, ct, osl, rfl, lk, hcd⟩ := F.ex
  exact fn_of lk hcd S len (hbody cdv)
theorem passN {X : Cx} : Passes (L2N.CX X.prog X.w) X E0 := fun _ _ _ _ _ _ _ ⟨_, _, _, _, _, _, _, _, _, _, _, _, z⟩ => z.elim
theorem takesN0 {X : Cx} : L2N.Takes X (fun _ _ _ _ => False) := fun _ _ ⟨_, _, _, _, _, _, _, _, _, _, _, _, _, _, _, _, z⟩ => z.elim
/-- an own error made by its own __init__, its context told -/
theorem pmk_oexN {X : Cx} {CX : CXT} {x : Str} {e : Expr} {es : List Expr} {ta : TA} {p pos : Pos} {C fI : Addr} {k : Nat} {fd : FuncData} {ps : List Str} {sp : Sp} (T : OexC X.K C) (iC : PySem.W.findIn X.K (.ref C) "__init__" = some (some (.ref fI))) (tI : PySem.W.typeIn X.K (.ref fI) = some (.type "function"))
    (F1 : FnOk X.prog X.w X.K X.mg X.base CX k fI fd ps sp) (hr : Room (k + 1) X.A) (hb : Binds X.K fd ps []) (hx : Passes CX X (fun _ _ _ => False)) (hg : Gl X x) (hm : X.mg x = some (.ref C)) (ha : PA X (e :: es) ta)
    (hdb : (x == ("__debug__" : Str)) = false := by decide) (he : starEach (e :: es) X.env = (false, eval e X.env) :: starEach es X.env := by rfl) (hpl : (backTo pos (starEach es X.env)).any (·.1) = false := by rfl) :
    L2N.PMk X (.Call (.Name x p) (e :: es) [] pos) (tMkO C sp [] ta) := by
  intro pins s σ H Q I h
  obtain ⟨_, _, _, _, bm, _, _, _, _, _, _, _, _, _, _, hC, hbm⟩ := T.cls
  refine wpAny_Call_Name_kw (ld_glob I hg hm ?_ hdb)
  refine PySem.W.callWith_K (h₀ := X.base) I.ok.mod.kin T.kC (thn (ha.run pos pins s σ H _ I h) fun us ⟨hp, g, dr, tk, os⟩ ⟨vs, H1, J, r, hz, q⟩ => ⟨J.kIn, ?_⟩) he hpl
  show wpAny _ _ (call (.ref C) us) _ _ _
  -- where the error will stand
  let n := hp.objs.size + 1
  have hn : hp.objs.size ≤ n := Nat.le_succ _
  let hp2 := (hp.push (PySem.W.kdv_tup us)).push (PySem.HandSPX.excO C hp.objs.size)
  have keeps : ∀ b o, hp.get? b = some o → hp2.get? b = some o := fun b o z => Heap.get?_push_of_some _ (Heap.get?_push_of_some _ z)
  have there : hp2.get? n = some (PySem.HandSPX.excO C hp.objs.size) := by
    show ((hp.push (PySem.W.kdv_tup us)).push (PySem.HandSPX.excO C hp.objs.size)).get? (hp.objs.size + 1) = _
    heap_get
  have J2 : Inv X pins σ (upd H1 n (exo n C none)) ⟨hp2, g, dr, tk, os⟩ := J.laid (t' := tk) keeps hn (exo_ok there)
  have q1 := q n (J.hok.fresh hn)
  rw [List.append_nil] at q1
  have r2 : Vals (V.ref n :: vs) (Value.ref n :: us) := .cons rfl r
  have b2 := hb ⟨hp2, g, dr, tk, os⟩ (Value.ref n :: us) J2.kIn (by rw [List.append_nil, ← r2.length]; exact F1.len _ _ _ _ q1)
  rw [List.append_nil] at b2
  refine wpAny_call (PySem.HandSPX.call_own F.excBase_ValueError (fun Y => PySem.HandSPX.refsVE_contains Y bm hbm) (J.kIn _ _ hC) (PySem.W.looks_findIn J.kIn iC) (fun self => PySem.W.bind_fn J.kIn self tI) (by rw [← Paired.length r, sizeLine_eq]; omega)
    (codeAny_mono (F1.run _ X.stack _ _ ⟨Value.ref n :: us, []⟩ _ _ _ (fun _ _ _ => False) (hr.make C us []) (J2.env0.make C us []) b2 r2 q1) fun r' ⟨h2, g2, d2, t2, o2⟩ z => ?_))
  match r', z with
  | .error er, z => exact hx pins σ _ _ er _ J2 z
  | .ok .next, z => exact False.elim z
  | .ok .brk, z => exact False.elim z
  | .ok .cont, z => exact False.elim z
  | .ok (.ret u), z =>
    obtain ⟨v, H2, eo, bare, un, hok, rv, ev, d, fs, ea, ed, hd, qq⟩ := z
    subst ev
    obtain ⟨t0, G, JG, kG, gn, hoe, na⟩ := mk_end0 (d2 := d2) (t2 := t2) J hn keeps un hok eo bare ea ed hd
    exact ⟨rv, n, _, _, ⟨G, g2, d2, t2, o2⟩, _, .ref C, some d, rfl, JG, kG, gn, hoe, ⟨rfl, rfl, fun vs hv => by cases hv; rfl⟩, rfl, rfl, na, rfl, bare, raises_own T.exC T.tyC, qq⟩
end
end L2
namespace L2
open PySem PySem.Spec PyProof.Rows
/-! ### a def to which the caught error is handed -/
/-- err.f, wherever the error is kept aside -/
theorem pe_xfP {X : Cx} {a C : Addr} {oe : Obj} {cls : Value} {d : Option Addr} {e : Expr} {te : TE} {pos : Pos} {n : Str} (T : XfC X.K C) (hno : PySem.W.findIn X.K (.ref C) n = some none) (hp : (a, oe) ∈ X.pn) (hz : Zc cls d oe) (hf : ∃ vs, oe.data = .fields vs) (he : PE X e te)
    (hb : attributeBase e n X.env (eval e X.env) = eval e X.env := by rfl) : PE X (.Attribute e n pos) (tXf a cls d C n te) := by
  refine ⟨fun pins s σ H Q I h => attr_of hb (thn (he.run pins s σ H _ I h) fun u s1 ⟨x, H1, J, rx, ex, ec, dd, fs, v, ed, ea, l, q⟩ => ?_)⟩
  subst ex ec ed
  obtain rfl : u = Value.ref a := rx
  obtain ⟨vs, hv⟩ := hf
  obtain ⟨mA, hns, hr⟩ := (show ObjOk X.prog X.w H1 s1.heap dd (.xd fs) from J.hok dd _ ea)
  obtain ⟨od, ho, hl⟩ := lookIn_ns hns
  obtain ⟨u', hu, ru⟩ := RelO.some_of (v := v) (o := mA n) (by rw [← l]; exact hr n)
  have inst : PySem.W.InstAt s1.heap a oe C (some od) := ⟨(J.pin (a, oe) (List.mem_append_left _ hp)).1, hz.1, by unfold PySem.W.notCls; rw [hv] <;> rfl, by rw [hz.2]; exact ho⟩
  exact HandSPX.exc_get J.kIn inst T.ga T.gg T.exC (PySem.W.findObj_own T.hdC hno rfl (by rw [hl, hu])) (handed_of ru) ⟨v, H1, J.tok _, ru, q⟩
theorem _root_.L2H.RoomH.units {k : Nat} {A : Around} (r : L2H.RoomH k A) : A.units + 64 < cLine := by have := r.un; omega
structure FnE (P : Program) (w : World) (K : PySem.W.Frag) (mg : Str → Option Value) (base : Heap) (k : Nat) (f : Addr) (fd : FuncData) (ps : List Str) (sp : Addr → Value → Option Addr → Sp) : Prop where
  len : ∀ a cls d vs H Q E, sp a cls d vs H Q E → vs.length = ps.length
  run : ∀ (A : Around) (outer : List Env) (s : Shared) (H : Hp) (args : Args) (us : List Value) (vs : List V) (Q : VK) (a : Addr) (oe : Obj) (cls : Value) (d : Option Addr), A.guards = some [] → L2H.RoomH k A → L2H.Hot1 A (a, oe) → Zc cls d oe → L2H.PinOk outer H s (a, oe) →
    Env0 P w K mg base A outer s H → BindsTo s fd args (ps.zip us) → Vals vs us → sp a cls d vs H Q E0 → codeAny (model P w) A (.call (.ref f) args) (CR CX0 outer P w H s Q E0) s
section
variable {P : Program} {w : World} {K : PySem.W.Frag} {mg : Str → Option Value} {base : Heap}
theorem Fun.okE {x qual : Str} {st : Stmt} {f : Addr} {fd : FuncData} {N ps : List Str} {k : Nat} {sp : Addr → Value → Option Addr → Sp} (F : Fun K x qual st f fd) (S : FnScope N ps (defScope st)) (len : ∀ a cls d vs H Q E, sp a cls d vs H Q E → vs.length = ps.length)
    (hbody : ∀ (cdv : Value) (A : Around) (outer : List Env) (s : Shared) (H : Hp) (vs : List V) (Q : VK) (a : Addr) (oe : Obj) (cls : Value) (d : Option Addr), A.guards = some [] → Zc cls d oe → (∃ vs, oe.data = .fields vs) → L2H.RoomH k (A.deeper (envOfC qual (defScope st) s.heap.objs.size f cdv)) → sp a cls d vs H Q E0 →
      ∃ t, PSs (L2H.cxH CX0 P w K mg base N qual (defScope st) f cdv A outer s H E0 (a, oe)) (defBody st) t ∧ t { nx := fun _ H' => Q .non H', rt := Q } (start N vs) H) : FnE P w K mg base (k + 1) f fd ps sp := by
  obtain ⟨oc, od, kV, doc, pm, an, cdv, ct, osl, rfl, lk, hcd⟩ := F.ex
  refine ⟨len, fun A outer s H args us vs Q a oe cls d hA hr hot hz hpin e0 hb r hsp => ?_⟩
  have hl := len _ _ _ _ _ _ _ hsp
  have kept : ∀ b o, base.get? b = some o → s.heap.get? b = some o := fun b o e => (e0.bs b o e).1
  have seen := e0.mod.kin.keeps kept
  refine codeAny_call_function hr.depth (seen _ _ lk) rfl S.co S.gen rfl (PySem.W.codeRec_of seen hcd) (hb _ _ _ _ (wpAny_newFunctionEnv_cells S.kind (fun ⟨n, v⟩ hy => ?_) fun env he s1 x => ?_))
  · exact (S.par n (List.of_mem_zip hy).1).imp id fun q => ⟨q, PySem.W.cellsFrom_some _ _ _ (.inl q)⟩
  · subst he
    obtain ⟨v0, hv0, _⟩ := hot.2
    obtain ⟨t, ht, hq⟩ := hbody cdv A outer s H vs Q a oe cls d hA hz ⟨v0, hv0⟩ (hr.deeper _) hsp
    have I := L2H.inv_startH (CX := CX0) (E := E0) S hpin e0 hl r x
    refine ⟨(e0.mod.nolimit.keeps kept).keeps x.toInCall.keep, codeAny_func (wpAny_mono (ht.run [] s1 (start N vs) H _ I hq) (fun fl s' hs => ?_) fun _ _ hs => hs)⟩
    cases fl with
    | next =>
      obtain ⟨_, H', J, q⟩ := hs
      exact ⟨.non, H', J.os, J.bare, J.base, J.hok, rfl, q⟩
    | ret u =>
      obtain ⟨v, _, H', J, rv, q⟩ := hs
      exact ⟨v, H', J.os, J.bare, J.base, J.hok, rv, q⟩
    | brk =>
      obtain ⟨_, _, _, q⟩ := hs
      exact q.elim
    | cont =>
      obtain ⟨_, _, _, q⟩ := hs
      exact q.elim
end
/-- f(e, ..) within the suite -/
theorem pe_callE {X : Cx} {k : Nat} {f : Addr} {fd : FuncData} {ps : List Str} {sp : Addr → Value → Option Addr → Sp} {x : Str} {p pos : Pos} {e : Expr} {es : List Expr} {t : TA} {a : Addr} {oe : Obj} {cls : Value} {d : Option Addr} {pn : List (Addr × Obj)}
    (F : FnE X.prog X.w X.K X.mg X.base k f fd ps sp) (hA : X.A.guards = some []) (hr : Room k X.A) (hz : L2N.Zn cls d oe) (hf : ∃ vs, oe.data = .fields vs) (hg : Gl X x) (hm : X.mg x = some (.ref f)) (hk : PySem.W.keepIn X.K (.ref f) = true) (hb : Binds X.K fd ps [])
    (ha : PA (X.suite a ((a, oe) :: pn)) (e :: es) t) (hdb : (x == ("__debug__" : Str)) = false := by decide) (he : starEach (e :: es) X.env = (false, eval e X.env) :: starEach es X.env := by rfl) (hpl : (backTo pos (starEach es X.env)).any (·.1) = false := by rfl) :
    PE (X.suite a ((a, oe) :: pn)) (.Call (.Name x p) (e :: es) [] pos) (tCall (sp a cls d) [] E0 t) := by
  refine ⟨fun pins s σ H Q I h => wpAny_Call_Name_kw (ld_glob (X := X.suite a ((a, oe) :: pn)) I hg hm ?_ hdb)⟩
  refine PySem.W.callWith_K (h₀ := X.base) I.ok.mod.kin hk (thn (ha.run pos pins s σ H _ I h) fun us s1 ⟨vs, H1, J, r, q⟩ => ⟨J.kIn, ?_⟩) he hpl
  have q : sp a cls d vs H1 Q E0 := by
    have h : sp a cls d (vs ++ []) H1 Q E0 := q
    rwa [List.append_nil] at h
  show wpAny _ _ (call (.ref f) us) _ _ _
  have b := hb s1 us J.kIn (by rw [List.append_nil, ← r.length]; exact F.len _ _ _ _ _ _ _ q)
  rw [List.append_nil] at b
  obtain ⟨v0, hv0⟩ := hf
  have P1 := J.pin (a, oe) (List.mem_append_left _ List.mem_cons_self)
  have pin : L2H.PinOk X.stack H1 s1 (a, oe) := ⟨P1.1, P1.2.1, fun z => (List.mem_cons.mp (J.stkSub a z)).elim P1.2.2.1 P1.2.2.2.1, P1.2.2.2.2⟩
  refine wpAny_call (codeAny_mono (F.run (X.A.mark (some (.ref a))) X.stack s1 H1 ⟨us, []⟩ us vs Q a oe cls d hA ⟨hr.dp, hr.un⟩ ⟨rfl, v0, hv0, hz.2.2 _ hv0⟩ hz.zc pin J.env0 b r q) fun r' s' z => ?_)
  match r', z with
  | .error _, z => exact False.elim z
  | .ok (.ret u), z => exact J.after z
  | .ok .next, z => exact False.elim z
  | .ok .brk, z => exact False.elim z
  | .ok .cont, z => exact False.elim z
end L2
namespace L2
open PySem PySem.Spec PyProof.Rows
section
variable {P : Program} {w : World} {K : PySem.W.Frag} {mg : Str → Option Value} {base : Heap} {CX : CXT} {k : Nat} {f : Addr} {fd : FuncData} {ps : List Str} {sp sp' : Sp}
/-- where nothing is let out, anything may be promised of it -/
theorem FnOk.cx0 (F : FnOk P w K mg base CX0 k f fd ps sp) : FnOk P w K mg base CX k f fd ps sp := ⟨F.len, fun A outer s H args us vs Q E hr e0 hb r h => codeAny_mono (F.run A outer s H args us vs Q E hr e0 hb r h) fun r' s' z => by
  match r', z with
  | .error _, z => exact False.elim z
  | .ok (.ret u), z => exact z
  | .ok .next, z => exact z
  | .ok .brk, z => exact z
  | .ok .cont, z => exact z⟩
theorem FnOk.or (F : FnOk P w K mg base CX k f fd ps sp) (F' : FnOk P w K mg base CX k f fd ps sp') : FnOk P w K mg base CX k f fd ps (fun vs H Q E => sp vs H Q E ∨ sp' vs H Q E) :=
  ⟨fun vs H Q E h => h.elim (F.len vs H Q E) (F'.len vs H Q E), fun A outer s H args us vs Q E hr e0 hb r h => h.elim (F.run A outer s H args us vs Q E hr e0 hb r) (F'.run A outer s H args us vs Q E hr e0 hb r)⟩
end
/-- o.m() in a try -/
theorem pe_methT0 {X : Cx} {CX : CXT} {k : Nat} {f C : Addr} {fd : FuncData} {ps : List Str} {sp : Sp} {E : St → XK} {m : Str} {pos apos : Pos} {o : Expr} {ta : TE} {pl : Sem Bool} (he : PE X o ta) (c : Cls X.K C) (hm : Meth X.K C m f) (F : FnOk X.prog X.w X.K X.mg X.base CX k f fd ps sp) (hr : Room k X.A) (hb : Binds X.K fd ps []) (hx : ∀ σ, PassesAt CX X σ (E σ))
    (ht : eval (.Call (.Attribute o m apos) [] [] pos) X.env = (do
      let ov ← eval o X.env
      standAt apos.atName
      let (f, first) ← holding [ov] (getMethod ov m pl)
      callWith pos f first (backTo pos (starEach [] X.env)) (backToKw pos (keywordEach [] X.env))) := by rfl) :
    PE X (.Call (.Attribute o m apos) [] [] pos) (tMethT C m sp [] E ta tNil) := by
  refine ⟨fun pins s σ H Q I h => PySem.W.methodCall_KW (pl := pl) (thn (he.run pins s σ H _ I h) fun u s1 ⟨x, H1, J, rx, a, dx, fs, ex, ea, l, q⟩ => ?_) ht⟩
  subst ex
  obtain rfl : u = Value.ref a := rx
  exact getmeth_ok J ea c hm l (PySem.W.callWith_K0 (first := [.ref a]) J.kIn hm.kp (run_fnT (us := [.ref a]) (vs := [.ref a]) F hr hb .nil (hx σ) J (.cons rfl .nil) q))
end L2
namespace L2
open PySem PySem.Spec PyProof.Rows
theorem k_isX {X : Cx} {K : PySem.W.Frag} {a : Addr} {oe : Obj} {cls : Value} {d : Option Addr} (hK : X.K = K) (hp : (a, oe) ∈ X.pn) (hz : Zc cls d oe) (hf : ∃ vs, oe.data = .fields vs) : CallR X (.builtin "isinstance") (rIsX K a cls d) := by
  subst hK
  exact call_isX hp hz hf
theorem k_reprG {X : Cx} {K : PySem.W.Frag} (hK : X.K = K) (hA : X.A.guards = some []) (hu : X.A.units + 64 < cLine) : CallR X (.builtin "repr") (rRepr K) := by
  subst hK
  exact call_reprG hA hu
end L2

namespace L2
open PySem PySem.Spec PyProof.Rows
/-! ### data whose repr is short -/
structure ShW (d : PyData) (n w : Nat) : Prop where
  ok : d.showable = true
  nod : d.hasDict = false
  deep : d.depth ≤ n
  short : d.leavesShort 13 = true
  wt : d.bulk ≤ w
structure ShA (ds : List PyData) (n w : Nat) : Prop where
  ok : PyData.showableAll ds = true
  nod : PyData.hasDictAll ds = false
  deep : PyData.depthAll ds ≤ n
  short : PyData.leavesShortAll 13 ds = true
  wt : PyData.bulkAll ds ≤ w
theorem log_sm {n : Nat} (h : n < 10 ^ 12) : n.log2 < 1920 := by
  by_cases h0 : n = 0
  · rw [h0]; decide
  · have h2 : n < 2 ^ 40 := Nat.lt_of_lt_of_le h (by decide)
    exact Nat.lt_of_lt_of_le ((Nat.log2_lt h0).mpr h2) (by omega)
theorem ShW.int {i : Int} (h : i.natAbs < 10 ^ 12) : ShW (.int i) 0 0 :=
  ⟨by simp only [PyData.showable]; exact decide_eq_true (log_sm h), by simp only [PyData.hasDict], by simp only [PyData.depth]; exact Nat.le_refl _, by simp only [PyData.leavesShort]; exact decide_eq_true (PyData.shown_int_le h), by simp only [PyData.bulk]; exact Nat.le_refl _⟩
theorem ShA.nil {n w : Nat} : ShA [] n w := ⟨by simp only [PyData.showableAll], by simp only [PyData.hasDictAll], by simp only [PyData.depthAll]; exact Nat.zero_le _, by simp only [PyData.leavesShortAll], by simp only [PyData.bulkAll]; exact Nat.zero_le _⟩
theorem ShA.cons {d : PyData} {ds : List PyData} {n w w' : Nat} (h : ShW d n w) (h' : ShA ds n w') : ShA (d :: ds) n (w + 1 + w') :=
  ⟨by simp only [PyData.showableAll, h.ok, h'.ok, Bool.and_self], by simp only [PyData.hasDictAll, h.nod, h'.nod, Bool.or_self], by
    simp only [PyData.depthAll]
    exact Nat.max_le.mpr ⟨h.deep, h'.deep⟩, by simp only [PyData.leavesShortAll, h.short, h'.short, Bool.and_self], by
    simp only [PyData.bulkAll]
    have := h.wt
    have := h'.wt
    omega⟩
theorem ShA.lst {ds : List PyData} {n w : Nat} (h : ShA ds n w) : ShW (.list ds) (n + 1) w :=
  ⟨by simp only [PyData.showable, h.ok], by simp only [PyData.hasDict, h.nod], by
    simp only [PyData.depth]
    have := h.deep
    omega, by simp only [PyData.leavesShort, h.short], by simp only [PyData.bulk]; exact h.wt⟩
theorem ShA.tup {ds : List PyData} {n w : Nat} (h : ShA ds n w) : ShW (.tuple ds) (n + 1) w :=
  ⟨by simp only [PyData.showable, h.ok], by simp only [PyData.hasDict, h.nod], by
    simp only [PyData.depth]
    have := h.deep
    omega, by simp only [PyData.leavesShort, h.short], by simp only [PyData.bulk]; exact h.wt⟩
theorem ShA.map {α : Type} {f : α → PyData} {n w : Nat} : ∀ {ds : List α}, (∀ d ∈ ds, ShW (f d) n w) → ShA (ds.map f) n ((w + 1) * ds.length)
  | [], _ => .nil
  | d :: r, h => by
    have := ShA.cons (h d List.mem_cons_self) (ShA.map (ds := r) fun x hx => h x (List.mem_cons_of_mem _ hx))
    rw [List.map_cons, List.length_cons, Nat.mul_add, Nat.mul_one, Nat.add_comm ((w + 1) * r.length)]
    exact this
theorem ShW.up {d : PyData} {n w n' w' : Nat} (h : ShW d n w) (hn : n ≤ n') (hw : w ≤ w') : ShW d n' w' := ⟨h.ok, h.nod, Nat.le_trans h.deep hn, h.short, Nat.le_trans h.wt hw⟩
theorem w_repr {K : PySem.W.Frag} {H : Hp} {Q : VK} {x : V} {d : PyData} {n w : Nat} (hd : Dp K H x d) (hs : ShW d n w) (hn : n ≤ 30) (hw : w ≤ 600) (q : Q (.str d.shown) H) : rRepr K [x] H Q := by
  refine ⟨x, d, rfl, hd, hs.ok, hs.nod, Nat.le_trans hs.deep hn, .inl ?_, q⟩
  have h := PyData.shown_le_bulk 13 (by omega) d hs.short
  have h2 : (13 + 2) * d.bulk ≤ 15 * 600 := Nat.mul_le_mul (by omega) (Nat.le_trans hs.wt hw)
  omega
theorem w_neSS {K : PySem.W.Frag} {H : Hp} {Q : VK} {s : Str} (q : Q (.bl false) H) : rNeG K (.str s) (.str s) H Q := .inl ⟨rfl, by
  rw [decide_eq_true rfl]; exact q⟩
theorem w_eqSS {K : PySem.W.Frag} {H : Hp} {Q : VK} {s : Str} (q : Q (.bl true) H) : rEqG K (.str s) (.str s) H Q := .inl ⟨rfl, by
  rw [decide_eq_true rfl]; exact q⟩
theorem w_eqSD {K : PySem.W.Frag} {H : Hp} {Q : VK} {s t : Str} (h : s ≠ t) (q : Q (.bl false) H) : rEqG K (.str s) (.str t) H Q := .inl ⟨rfl, by
  rw [decide_eq_false (fun e => h (V.str.inj e))]; exact q⟩
theorem w_neSD {K : PySem.W.Frag} {H : Hp} {Q : VK} {s t : Str} (h : s ≠ t) (q : Q (.bl true) H) : rNeG K (.str s) (.str t) H Q := .inl ⟨rfl, by
  rw [decide_eq_false (fun e => h (V.str.inj e))]; exact q⟩
theorem w_neBB {K : PySem.W.Frag} {H : Hp} {Q : VK} {b : Bool} (q : Q (.bl false) H) : rNeG K (.bl b) (.bl b) H Q := .inl ⟨rfl, by
  rw [decide_eq_true rfl]; exact q⟩
/-! ### new objects, the heap told anew -/
theorem w_newO {H : Hp} {o : HO} {F : Addr → Hp → Prop} (q : ∀ p H', H p = none → Same H H' → H' p = some o → F p H') : ∀ p, H p = none → F p (upd H p o) := fun p hp => q p _ hp (Same.new hp) upd_same
theorem sqU {K : PySem.W.Frag} {H : Hp} {q p : Addr} {xs ys : List V} {o : HO} (hq : H q = some (.lst xs)) (h : Sq false K H p ys) : Sq false K (upd H q o) p ys := by
  obtain ⟨_, e, h⟩ := RTup.upd (R := RRw false K) RRw.tup RRw.mono (o := o) (NTup.lst hq) ⟨p, rfl, h⟩
  cases e
  exact h
end L2
namespace L2
open PySem PySem.Spec PyProof.Rows
section
variable {K : PySem.W.Frag} {σ : St} {H : Hp} {Q : VK}
/-- a new object, n long -/
def NewO (Q : VK) (H : Hp) (n : Nat) (o : HO) : Prop := n ≤ sizeLine ∧ ∀ p, H p = none → Q (.ref p) (upd H p o)
theorem w_new {n : Nat} {o : HO} (hn : n ≤ 1000000) (q : ∀ p H', H p = none → Same H H' → H' p = some o → Q (.ref p) H') : NewO Q H n o :=
  ⟨by rw [sizeLine_eq]; omega, fun p hp => q p _ hp (Same.new hp) upd_same⟩
theorem w_tupN {ta : TA} (q : ta σ H fun xs H1 => NewO Q H1 xs.length (.tup xs)) : tTup ta σ H Q := q
theorem w_lstN {ta : TA} (q : ta σ H fun xs H1 => NewO Q H1 xs.length (.lst xs)) : tLst ta σ H Q := q
theorem w_listN {p : Addr} {ys : List V} {b : Bool} (h : Sq b K H p ys) (q : ∀ l H', H l = none → Same H H' → H' l = some (.lst ys) → Q (.ref l) H') : rListS K [.ref p] H Q := w_listS h fun l hl => q l _ hl (Same.new hl) upd_same
theorem w_tupNL {p : Addr} {ys : List V} (h : Sq true K H p ys) (q : ∀ l H', H l = none → Same H H' → H' l = some (.tup ys) → Q (.ref l) H') : rTupS K [.ref p] H Q := w_tupL h fun l hl => q l _ hl (Same.new hl) upd_same
/-- what is let out: an error with this field -/
def RaiseQ (E : XK) (H : Hp) (C : Addr) (f : Str) (v : V) : Prop := ∀ d H', H d = none → Same H H' → H' d = some (.xd [(f, v)]) → E (.ref C) (some d) H'
theorem w_iff {A B C : Prop} {b : Bool} (h : b = true ↔ C) (h1 : C → A) (h2 : ¬ C → B) : if b = true then A else B := by
  cases b with
  | true => exact h1 (h.mp rfl)
  | false => exact h2 fun c => nomatch h.mpr c
/-- all old objects but those at a and b stand -/
def Fr2 (a b : Addr) (H H' : Hp) : Prop := ∀ c o, c ≠ a → c ≠ b → H c = some o → H' c = some o
theorem Fr2.refl (a b : Addr) (H : Hp) : Fr2 a b H H := fun _ _ _ _ e => e
theorem Fr2.trans {a b : Addr} {H H' H'' : Hp} (f : Fr2 a b H H') (g : Fr2 a b H' H'') : Fr2 a b H H'' := fun c o h1 h2 e => g c o h1 h2 (f c o h1 h2 e)
theorem Fr2.same {a b : Addr} {H H' : Hp} (s : Same H H') : Fr2 a b H H' := fun c o _ _ e => s c o e
theorem Fr2.left {a b : Addr} {H H' : Hp} (f : Fr a H H') : Fr2 a b H H' := fun c o h _ e => f c o h e
theorem Fr2.right {a b : Addr} {H H' : Hp} (f : Fr b H H') : Fr2 a b H H' := fun c o _ h e => f c o h e
theorem Fr2.mut {a b p : Addr} {H H' : Hp} {o : HO} (f : Fr2 a b H H') (hp : H p = none) : Fr2 a b H (upd H' p o) := fun c u h1 h2 e =>
  (upd_ne (fun z => by rw [z, hp] at e; cases e)).trans (f c u h1 h2 e)
theorem Fr2.hide {a b : Addr} {H H' : Hp} (f : Fr2 a b H H') : Same (hide a (hide b H)) H' := fun c o e => by
  by_cases h1 : c = a
  · rw [h1, hide_at] at e; cases e
  · rw [hide_ne h1] at e
    by_cases h2 : c = b
    · rw [h2, hide_at] at e; cases e
    · rw [hide_ne h2] at e
      exact f c o h1 h2 e
theorem NTup.hide {a b : Addr} {H : Hp} (h : NTup (H a)) : NTup (L2.hide b H a) := by
  by_cases e : a = b
  · rw [e, hide_at]; trivial
  · rw [hide_ne e]; exact h
theorem Fr2.rep {α : Type} {R : Rep α} (hm : RMono R) (ht : RTup R) {a b : Addr} {H H' : Hp} {v : V} {x : α} (f : Fr2 a b H H') (ha : NTup (H a)) (hb : NTup (H b)) (h : R H v x) : R H' v x :=
  hm _ _ _ _ f.hide (ht _ _ _ _ (NTup.hide ha) (ht _ _ _ _ hb h))
theorem Fr2.sqT {a b p : Addr} {H H' : Hp} {xs : List V} (f : Fr2 a b H H') (ha : NTup (H a)) (hb : NTup (H b)) (h : Sq false K H p xs) : Sq false K H' p xs := by
  obtain ⟨_, e, h⟩ := f.rep (R := RRw false K) RRw.mono RRw.tup ha hb ⟨p, rfl, h⟩
  cases e
  exact h
end
end L2

namespace L2
open PySem PySem.Spec PyProof.Rows
section
variable {K : PySem.W.Frag} {σ : St} {H : Hp} {te : TE} {vs : List Nat} {Q : VK}
/-- a comprehension over a range that gives new lists -/
theorem c_freshR {n : Int} {j : Nat} (rows : List (List V)) (h1 : -(2 ^ 62) ≤ n) (h2 : n < 16000000) (hl : rows.length = n.toNat) (hw : ∀ x : V, wipe ((wipe σ vs).set j (some x)) vs = wipe σ vs)
    (hs : ∀ (i : Nat) r H1 (N : VK), (i : Int) < n → rows[i]? = some r → Same H H1 → (∀ p H2, H1 p = none → Same H1 H2 → H2 p = some (.lst r) → N (.ref p) H2) → te ((wipe σ vs).set j (some (.int (i : Int)))) H1 N)
    (k : ∀ D H', Same H H' → FRows H H' D rows → Q (.ref D) H') :
    ∃ j' : Int, [V.int n] = [.int j'] ∧ -(2 ^ 62) ≤ j' ∧ j' < 2 ^ 62 ∧ CompOk (Itr 0 j'.toNat) (gName j) tYes te vs σ H Q := by
  refine l_compGR h1 h2 (fun D i acc H' => Same H H' ∧ FRows H H' D (rows.take i)) hw (fun D hD => ⟨Same.new hD, FRows.nil hD⟩) (fun i H1 D acc NT NF hi hD st e1 hal hT hF => ?_) (fun D H' ys hD st e hly => ?_)
  · obtain ⟨s1, f1⟩ := st
    have hri : rows[i]? = some (rows[i]'(by omega)) := List.getElem?_eq_getElem (by omega)
    show te _ H1 NT
    refine hs i _ H1 NT hi hri s1 fun p H2 hp s2 ep => ?_
    obtain ⟨e2, f2⟩ := f1.next s1 e1 hp s2 ep
    refine hT _ H2 e2 ⟨Same.mut (s1.trans s2) hD, ?_⟩
    rw [List.take_add_one, hri]
    exact f2
  · rw [← hl, List.take_length] at st
    exact k D H' st.1 st.2
end
end L2

namespace L2
open PySem PySem.Spec PyProof.Rows
/-! ### a list prolonged by a tuple -/
set_option maxRecDepth 8000 in
theorem extend_tup (l : Addr) (items : Array Value) (n : Nat) (b : Addr) (items2 : Array Value) (n2 : Nat) (dct : Option Addr) (sl : Array (Option Value)) (hs0 : ¬(!items.isEmpty && Builtin.List.listTooLong (items.size + items2.size)) = true) (hs1 : items.size ≤ sizeLine) (hs2 : items.size + items2.size ≤ sizeLine + 1) :
    Meets (Builtin.«list.extend» ⟨[.ref l, .ref b], []⟩) (fun _ R s => s.heap.get? l = some { cls := .type "list", dict := none, data := .seq items n, slots := #[] } ∧ s.heap.get? b = some { cls := .type "tuple", dict := dct, data := .seq items2 n2, slots := sl } ∧ R (.ok (.ret Value.none)) { s with heap := s.heap.update l (Obj.mapSeq fun x => x ++ items2), toks := s.toks }) :=
  .of_wp fun prog w A R s h => by
    obtain ⟨hp, g, d, tk, os⟩ := s; obtain ⟨hl, hb, h⟩ := h; have f1 := AutoSeq1.idx_int; have f2 := AutoSeq1.sub_tuple_tuple; have f3 := AutoSeq1.sub_list_list; have f4 := AutoSeq1.sub_tuple_list; have f5 := AutoSeq1.sub_list_tuple;
    have hz' : (items ++ items2).size ≤ sizeLine + 1 := by rw [Array.size_append]; exact hs2
    wp_walk using (wpAny_updateSeq hl rfl (hz := hs1) (_hz' := hz')), AutoSeq1.wpAny_loadPart' hl, AutoSeq1.wpAny_loadPart' hb; exact ⟨_, rfl, h⟩
section
variable {X : Cx}
/-- xs.extend(a tuple) -/
def rExtT (K : PySem.W.Frag) : V → List V → Hp → VK → Prop := fun x vs H Q => ∃ l b xs zs, x = .ref l ∧ vs = [.ref b] ∧ H l = some (.lst xs) ∧ Sq false K H b zs ∧ xs.length + zs.length ≤ 1000000 ∧ Q .non (upd H l (.lst (xs ++ zs)))
theorem mt_extT : MtM X "list.extend" (rExtT X.K) := by
  intro pins s σ H x vs v us Q I rx rv h
  obtain ⟨l, b, xs, zs, rfl, rfl, hH, hB, hz0, q⟩ := h
  have hz : xs.length + zs.length ≤ sizeLine := by rw [sizeLine_eq]; omega
  cases rx
  obtain ⟨u, rfl, ru⟩ := rv.one
  cases ru
  obtain ⟨z, its, n, r, hl, e⟩ := I.lstM hH
  obtain ⟨its2, r2, ⟨o2, e2, hc2, n2, hd2⟩, _⟩ := I.tuple hB
  have hl2 := r2.length
  obtain ⟨c2, d2, dat2, sl2⟩ := o2
  dsimp only at hc2 hd2
  subst hc2 hd2
  have hsz : its.toArray.size + its2.toArray.size ≤ sizeLine := by rw [List.size_toArray, List.size_toArray]; omega
  have hlong : ¬ (!its.toArray.isEmpty && Builtin.List.listTooLong (its.toArray.size + its2.toArray.size)) = true := by
    rw [notLongL hsz, Bool.and_false]
    exact Bool.false_ne_true
  refine call_meets F.slot_list_extend ⟨_, e, rfl⟩ F.entry_list_extend (F.args_list_extend_2 _ _)
    (extend_tup l its.toArray n b its2.toArray n2 d2 sl2 hlong (by rw [List.size_toArray]; omega) (by omega)) ⟨e, e2, ?_⟩
  refine ⟨.non, _, I.lset (its' := its ++ its2) hH e (by simp) (r.append r2) ?_, rfl, q⟩
  rw [List.length_append]
  omega
end
theorem k_extT {X : Cx} {K : PySem.W.Frag} (h : X.K = K) : MtR X "list.extend" (rExtT K) := h ▸ mt_extT
theorem w_extT {K : PySem.W.Frag} {l b : Addr} {xs zs : List V} {H : Hp} {Q : VK} (h1 : H l = some (.lst xs)) (h2 : Sq false K H b zs) (hz : xs.length + zs.length ≤ 1000000) (q : Q .non (upd H l (.lst (xs ++ zs)))) : rExtT K (.ref l) [.ref b] H Q := ⟨l, b, xs, zs, rfl, rfl, h1, h2, hz, q⟩
end L2
namespace L2
open PySem PySem.Spec PyProof.Rows
/-! ### o.f += e -/
theorem k_fldaug {X : Cx} {K : PySem.W.Frag} {o value : Expr} {f : Str} {pos tpos : Pos} {ta tv : TE} {op : Operator} {rd : V → V → Hp → VK → Prop} (h : X.K = K) (ha : PE X o ta) (hv : PE X value tv) (hop : InOp X op rd) : PS X (.AugAssign (.Attribute o f tpos) op value pos) (sFldAug K ta tv rd f) := h ▸ ps_fldaug ha hv hop
section
variable {K : PySem.W.Frag} {σ : St} {H : Hp} {ta tv : TE} {rd : V → V → Hp → VK → Prop} {f : Str} {nx b' c' : St → Hp → Prop} {rt : VK}
theorem w_augF (q : ta σ H fun x H1 => ∃ a C dx fs v, x = .ref a ∧ H1 a = some (.ins C dx fs) ∧ Cls K C ∧ NoAttr K C f ∧ fs.lookup f = some v ∧
  tv σ H1 fun y H2 => rd v y H2 fun z H3 => ∃ dx' fs', H3 a = some (.ins C dx' fs') ∧ fs'.length < 1000 ∧ nx σ (upd H3 a (.ins C dx' (putF f z fs')))) : sFldAug K ta tv rd f ⟨nx, rt, b', c'⟩ σ H := q
theorem w_augFAt {p C dx : Addr} {fs : List (Str × V)} {v : V} {F : Addr → Addr → V → Prop} (h : H p = some (.ins C dx fs)) (c : Cls K C) (n : NoAttr K C f) (l : fs.lookup f = some v) (q : F p C v) :
    ∃ a C dx fs v, V.ref p = .ref a ∧ H a = some (.ins C dx fs) ∧ Cls K C ∧ NoAttr K C f ∧ fs.lookup f = some v ∧ F a C v := ⟨p, C, dx, fs, v, rfl, h, c, n, l, q⟩
theorem w_rAdd {i j : Int} {Q : VK} (q : Q (.int (i + j)) H) : rAdd (.int i) (.int j) H Q := ⟨i, j, rfl, rfl, q⟩
theorem w_augFEnd {p C dx : Addr} {fs fs' : List (Str × V)} {z : V} {F : Hp → Prop} (h : H p = some (.ins C dx fs)) (hl : fs.length < 1000) (e : putF f z fs = fs') (q : F (upd H p (.ins C dx fs'))) :
    ∃ dx' fs', H p = some (.ins C dx' fs') ∧ fs'.length < 1000 ∧ F (upd H p (.ins C dx' (putF f z fs'))) := ⟨dx, fs, h, hl, by rw [e]; exact q⟩
end
end L2

namespace L2
open PySem PySem.Spec PyProof.Rows
/-! ### isinstance with several built-in types -/
section
variable {X : Cx} {K : PySem.W.Frag} {H : Hp} {x : V} {Q : VK}
theorem k_isiT (h : X.K = K) : CallR X (.builtin "isinstance") (rIsiT K) := h ▸ call_isiT
theorem w_isi2 {tn c1 c2 : String} {tp : Addr} {b1 b2 b : Bool} (hb : (b1 || b2) = b) (hT : H tp = some (.tup [.ty c1, .ty c2])) (ht : TyX K H x (.type tn)) (h1 : kitB tn c1 = some b1) (h2 : kitB tn c2 = some b2) (q : Q (.bl b) H) : rIsiT K [x, .ref tp] H Q := by
  subst hb
  refine ⟨x, tp, _, _, [.type c1, .type c2], _, rfl, hT, .cons (.ty c1) (.cons (.ty c2) .nil), ht, ?_, q⟩
  unfold PySem.W.kitAny
  rw [kit_ty h1]
  cases b1 with
  | true => rfl
  | false =>
    show PySem.W.kitAny K _ [.type c2] = _
    unfold PySem.W.kitAny
    rw [kit_ty h2]
    cases b2 <;> rfl
end
end L2

namespace SL
open PySem PySem.W PySem.Calls PyProof.Rows SrtO
/-! ### sorted(xs), xs a list of tuples of ints, of any lengths, none empty -/
abbrev Ints2 := @IntsAre
def IsTI (h : Heap) (v : Value) (ns : List Int) : Prop := ∃ (a : Addr) (o : Obj) (xs : Array Value) (n : Nat), v = .ref a ∧ h.get? a = some o ∧ o.cls = .type "tuple" ∧ o.data = .seq xs n ∧ IntsAre xs.toList ns
theorem IsTI.keeps {h h' : Heap} {v : Value} {ns : List Int} (p : IsTI h v ns) (k : ∀ b o, h.get? b = some o → o.cls = .type "tuple" → h'.get? b = some o) : IsTI h' v ns := by
  obtain ⟨a, o, xs, n, e, ho, hc, hd, hi⟩ := p
  exact ⟨a, o, xs, n, e, k _ _ ho hc, hc, hd, hi⟩
section
variable {prog : Program} {w : World} {A : Around} {E : Value → Shared → Prop} {s : Shared}
theorem lex_kat {fin : Bool} {Q : Bool → Shared → Prop} : ∀ (vs ws : List Value) (ns ms : List Int) (i : Nat), IntsAre vs ns → IntsAre ws ms → (ns = [] → fin = decide (0 < ms.length)) → (ms = [] → fin = false) → (∀ n m, ns.length = n + 1 → ms.length = m + 1 → fin = decide (n + 1 < m + 1)) → Q (HT.lexLt ns ms) s → KatLex prog w A true fin Q (vs.zip ws) i s
  | _, _, [], ms, i, .nil, hw, f1, f2, f3, q => by
    rw [List.zip_nil_left]
    refine kat_nil ?_
    rw [f1 rfl]
    cases ms with
    | nil => rw [HT.lexLt_nil_nil] at q; exact q
    | cons m ms => rw [HT.lexLt_nil_cons] at q; exact q
  | _, _, n :: ns, [], i, hv, .nil, f1, f2, f3, q => by
    rw [List.zip_nil_right]
    refine kat_nil ?_
    rw [f2 rfl]
    rw [HT.lexLt_cons_nil] at q
    exact q
  | _, _, _, _, i, .cons a t hv, .cons c u hw, f1, f2, f3, q => by
    rw [List.zip_cons_cons]
    rw [HT.lexLt_cons] at q
    refine kat_cons (SeqAt.EqAt.int_int a t c u prog w _ _ ?_)
    have hfin := f3 _ _ rfl rfl
    refine kat_go (fun e => ?_) (fun e => ?_)
    · have ex : a = c := by simpa using e
      rw [if_pos ex] at q
      refine kat_yes (lex_kat _ _ _ _ (i + 1) hv hw (fun hn => ?_) (fun hm => ?_) (fun n m hn hm => ?_) q)
      · rw [hfin, hn, decide_eq_decide]
        simp only [List.length_nil]
        omega
      · rw [hfin, hm]
        simp only [List.length_nil]
        exact decide_eq_false (by omega)
      · rw [hfin, hn, hm, decide_eq_decide]
        omega
    · have ex : ¬ a = c := by simpa using e
      rw [if_neg ex] at q
      exact kat_no (oneLt_any_int q)
theorem tup_cmp {vs : List Value} {k : Value → List Int} (hp : ∀ v ∈ vs, IsTI s.heap v (k v)) : Cmp prog w A s (tuples' true) (fun p => p.1 ∈ vs) (lt2 fun v u => HT.lexLt (k v) (k u)) := by
  intro p q hm hm'
  have h1 := hp _ hm
  have h2 := hp _ hm'
  show wpAny (model prog w) A (keyLt' (tuples' true) p.1 q.1) (fun r s' => s' = s ∧ r = HT.lexLt (k p.1) (k q.1)) (fun _ _ => False) s
  generalize k p.1 = ns at h1 ⊢
  generalize k q.1 = ms at h2 ⊢
  obtain ⟨a, o, xs, n, e, ho, hc, hd, hi⟩ := h1
  obtain ⟨a', o', xs', n', e', ho', hc', hd', hi'⟩ := h2
  rw [e, e']
  have z1 : xs.size = ns.length := by rw [← hi.length]; simp
  have z2 : xs'.size = ms.length := by rw [← hi'.length]; simp
  refine PySem.W.kat_lt ho hd ho' hd' (lex_kat _ _ ns ms 0 hi hi' (fun hn => ?_) (fun hm => ?_) (fun n m hn hm => ?_) ⟨rfl, rfl⟩)
  · rw [z1, z2, hn]; rfl
  · rw [z1, z2, hm]; exact decide_eq_false (Nat.not_lt_zero _)
  · rw [z1, z2, hn, hm]
theorem firsts_ofL {h : Heap} : ∀ {vs : List Value}, (∀ v ∈ vs, ∃ ns, ns ≠ [] ∧ IsTI h v ns) → ∃ fs : List Value, PySem.W.KatTups h vs fs ∧ fs.length = vs.length ∧ ∀ f ∈ fs, ∃ x t, f = Value.int x t
  | [], _ => ⟨[], KatTups.nil, rfl, fun f hf => by cases hf⟩
  | v :: vs, x => by
    obtain ⟨fs, k, hl, hi⟩ := firsts_ofL (vs := vs) fun u hu => x u (List.mem_cons_of_mem _ hu)
    obtain ⟨ns, hne, a, o, xs, n, rfl, ho, hc, hd, hI⟩ := x v List.mem_cons_self
    cases hns : xs.toList with
    | nil =>
      rw [hns] at hI
      cases hI
      exact absurd rfl hne
    | cons f r =>
      rw [hns] at hI
      cases hI with
      | cons b t hI' =>
        have hf : xs[0]? = some (Value.int b t) := by
          rw [← Array.getElem?_toList, hns]; rfl
        exact ⟨_, KatTups.cons ho hc hd hf k, by rw [List.length_cons, List.length_cons, hl], fun f hf => by
          rcases List.mem_cons.mp hf with rfl | hf
          · exact ⟨_, _, rfl⟩
          · exact hi f hf⟩
theorem tups_sortableL {a : Addr} {vs : List Value} {k : Value → List Int} (h0 : 0 < vs.length) (hp : ∀ v ∈ vs, k v ≠ [] ∧ IsTI s.heap v (k v)) (ha : ∀ o, s.heap.get? a = some o → o.cls ≠ .type "tuple") : SortableO prog w A s a vs fun v u => HT.lexLt (k v) (k u) := by
  intro h' keep
  have hp' : ∀ v ∈ vs, IsTI h' v (k v) := fun v hm => (hp v hm).2.keeps fun b o e c => keep b o (fun z => by subst z; exact ha o e c) e
  obtain ⟨fs, h1, h2, h3⟩ := firsts_ofL fun v hm => ⟨_, (hp v hm).1, hp' v hm⟩
  refine ⟨tuples' true, fun Q E hq => ?_, tup_cmp hp'⟩
  refine PySem.W.kat_kind (T := .type "int") h1 (by omega) (fun f hm => ?_) (by rfl) ?_
  · obtain ⟨x, t, rfl⟩ := h3 f hm
    exact PySem.W.Looks.now
  · have e : (Value.type "int" != Value.type "tuple") = true := by first | decide +kernel | rfl | decide
    rw [e]
    exact hq
theorem sorted_tupsL {l : Addr} {vs : List Value} {k : Value → List Int} {Q : Value → Shared → Prop} (hl : s.heap.IsList l vs.toArray) (hz : vs.length ≤ sizeLine) (hp : ∀ v ∈ vs, k v ≠ [] ∧ IsTI s.heap v (k v))
    (h : ∀ (h' : Heap) (d : Addr) (out : List Value), Srtd (fun v u => HT.lexLt (k v) (k u)) out → Stb (fun v u => HT.lexLt (k v) (k u)) out vs → (∀ b o, s.heap.get? b = some o → h'.get? b = some o) → s.heap.objs.size ≤ d → (∃ n, h'.get? d = some (seqObj "list" out.toArray n)) → Q (.ref d) { s with heap := h' }) :
    wpAny (model prog w) A (call (.builtin "sorted") [.ref l]) Q E s := by
  refine sorted_ord (NtL.swo_lexL k) hl hz (fun h2 h₁ a ha kk => ?_) fun out hs hb => ?_
  · refine tups_sortableL (s := { s with heap := h₁ }) (by omega) (fun v hm => ⟨(hp v hm).1, (hp v hm).2.keeps fun b o e _ => (kk b o e).2⟩) fun o e => ?_
    have e' : some o = some (seqObj "list" vs.toArray 0) := e.symm.trans ha
    cases e'
    intro c
    exact absurd (Value.type.inj c) (by decide)
  · exact h _ _ out hs hb (fun b o e => sortedAll_old e) (Nat.le_succ _) (sortedAll_at s.heap vs out.toArray)
end
end SL
namespace L2
open PySem PySem.Spec PyProof.Rows
/-- sorted(xs), xs a list of tuples of ints (k says which), none empty: a new list, sorted, equal ones in their order -/
def rSortedL (K : PySem.W.Frag) : List V → Hp → VK → Prop := fun vs H Q => ∃ (a : Addr) (xs : List V) (k : V → List Int), vs = [V.ref a] ∧ SqL K H a xs ∧ (∀ x ∈ xs, k x ≠ [] ∧ ∃ t, x = V.ref t ∧ SqT K H t ((k x).map V.int)) ∧
  ∀ ys p, SrtO.Srtd (fun x y => HT.lexLt (k x) (k y)) ys → SrtO.Stb (fun x y => HT.lexLt (k x) (k y)) ys xs → H p = none → Q (.ref p) (upd H p (.lst ys))
section
variable {X : Cx}
theorem cr_sortedL : CallR X (.builtin "sorted") (rSortedL X.K) := by
  intro pins s σ H vs us Q I r h
  obtain ⟨a, xs, k, rfl, hs, hx, q⟩ := h
  obtain ⟨its, rv, hl, hz⟩ := I.list hs
  obtain ⟨u, rfl, ru⟩ := vals1 r
  obtain rfl : u = Value.ref a := ru
  obtain ⟨e1, e2⟩ := refs_back rv fun x m => by
    obtain ⟨_, t, e, _⟩ := hx x m
    exact ⟨t, e⟩
  refine SL.sorted_tupsL (k := fun u => k (backV u)) hl.isList (by rw [← rv.length]; exact hz) (fun v hv => ?_) fun h' d out h1 h2 kp hd hn => ?_
  · obtain ⟨t, rfl⟩ := e2 v hv
    have hm : V.ref t ∈ xs := by rw [e1]; exact List.mem_map.mpr ⟨_, hv, rfl⟩
    obtain ⟨hne, t', e, ht⟩ := hx _ hm
    cases e
    obtain ⟨its2, rv2, ⟨o, ho, hc, n, hd⟩, _⟩ := I.tuple ht
    exact ⟨hne, t, o, _, n, rfl, ho, hc, hd, (show SL.Ints2 its2 (k (V.ref t)) from rv2.ints)⟩
  · have h3 : ∀ u ∈ out, ∃ a, u = Value.ref a := fun u hu => e2 u (h2.perm.mem_iff.mp hu)
    obtain ⟨n, hn⟩ := hn
    have hb : SrtO.Stb (fun x y => HT.lexLt (k x) (k y)) (out.map backV) xs := by
      rw [e1]
      exact SrtO.Stb.map (NtL.swo_lexL k) backV h2
    refine ⟨.ref d, upd H d (.lst (out.map backV)), I.laid (t' := s.toks) kp hd ⟨?_, out, n, vals_back h3, hn⟩, rfl, q _ d (SrtO.srtd_map h1) hb (I.hok.fresh hd)⟩
    rw [hb.len]
    exact hz
end
end L2
namespace SL
open PySem PySem.W PySem.Calls PyProof.Rows SrtO
section
variable {prog : Program} {w : World} {A : Around} {E : Value → Shared → Prop} {s : Shared}
/-- the keys of a dict, collected -/
theorem collectD {R : List Value → Shared → Prop} {d n : Nat} {P : Nat → Value → Prop} {OK : Heap → Prop} (K : KdlSrc prog w "dict" d d n P OK) (hh : A.handled = none) (hok : OK s.heap) (hn : n ≤ sizeLine)
    (h : ∀ (h' : Heap) (tk : Nat) (acc' : Array Value), (∀ b o, s.heap.get? b = some o → h'.get? b = some o) → s.heap.objs.size < h'.objs.size → ItemsOf P acc' n → R acc'.toList { s with heap := h', toks := tk }) :
    wpAny (model prog w) A (collect (.ref d)) R E s := by
  have hd : d < s.heap.objs.size := (K.there _ hok).1
  unfold collect
  refine wpAny_bind (wpAny_runValue (codeAny_builtin entry_proto_collect' ?_))
  rw [Around.under_plainId PySem.F.plain_proto_collect _]
  show wpAny _ A.in1 (newList [] >>= fun l => again (.builtin "list.__iadd__" ⟨[l, .ref d], []⟩)) _ _ s
  refine wpAny_bind (wpAny_newObj_type ?_)
  refine wpAny_pure ⟨plainId_quiet PySem.F.plain_list_iadd _, codeAny_builtin entry_list_iadd' ?_⟩
  rw [Around.under_plainId PySem.F.plain_list_iadd _]
  have hS₁ : (s.heap.push { cls := .type "list", data := .seq ([] : List Value).toArray }).get? s.heap.objs.size = some { cls := .type "list", data := .seq #[] } := Heap.get?_push_size _ rfl
  show wpAny _ A.in1 (Builtin.List.listExtendWith (.ref s.heap.objs.size) (.ref d) (.ref s.heap.objs.size)) _ _ _
  have key := kdl_extend (prog := prog) (w := w) (A := A) (s := { s with heap := s.heap.push { cls := .type "list", data := .seq ([] : List Value).toArray } })
    (R := fun (q : Result) (s' : Shared) => ∃ (h' : Heap) (tk : Nat) (acc' : Array Value) (c' : Nat), q = .ok (.ret (.ref s.heap.objs.size)) ∧ s' = { s with heap := h', toks := tk } ∧
      (∀ b o, s.heap.get? b = some o → h'.get? b = some o) ∧ h'.get? s.heap.objs.size = some { cls := .type "list", dict := none, data := .seq acc' c', slots := #[] } ∧ ItemsOf P acc' n)
    K hh (K.keep _ _ hok fun b _ o e => Heap.get?_push_of_some _ e) s.heap.objs.size (Nat.ne_of_gt hd) (Nat.ne_of_gt hd) (.ref s.heap.objs.size) 0 hS₁
    (fun h' tk acc' c' hk hS' hacc => ⟨h', tk, acc', c', rfl, rfl, fun b o e => hk b o (Nat.ne_of_lt (Heap.lt_size e)) (Heap.get?_push_of_some _ e), hS', hacc⟩) hn
  refine wpAny_mono key (fun fin s' x => ?_) fun e s' x => ?_
  · cases fin with
    | done f =>
      obtain ⟨h', tk, acc', c', e, rfl, hk, hS', hacc⟩ := x
      cases e
      show wpAny _ A (load s.heap.objs.size >>= _) _ _ _
      refine wpAny_bind (wpAny_load hS' ?_)
      refine wpAny_pure ?_
      show R acc'.toList _
      exact h h' tk acc' hk (Heap.lt_size hS') hacc
    | again c₁ =>
      refine ⟨x.1, codeAny_mono x.2 fun q s₂ y => ?_⟩
      obtain ⟨h', tk, acc', c', rfl, rfl, hk, hS', hacc⟩ := y
      show wpAny _ A (load s.heap.objs.size >>= _) _ _ _
      refine wpAny_bind (wpAny_load hS' ?_)
      refine wpAny_pure ?_
      show R acc'.toList _
      exact h h' tk acc' hk (Heap.lt_size hS') hacc
  · obtain ⟨_, _, _, _, e', _⟩ := x
    cases e'
/-- sorted(d): the keys, sorted -/
theorem sortedD {d n : Nat} {P : Nat → Value → Prop} {OK : Heap → Prop} {k : Value → List Int} {Q : Value → Shared → Prop} (K : KdlSrc prog w "dict" d d n P OK) (hh : A.handled = none) (hok : OK s.heap) (hn : n ≤ sizeLine)
    (hp : ∀ (i : Nat) (v : Value), P i v → k v ≠ [] ∧ IsTI s.heap v (k v))
    (h : ∀ (h' : Heap) (tk : Nat) (e : Addr) (vs : List Value) (out : List Value), vs.length = n → (∀ (i : Nat) (v : Value), vs[i]? = some v → P i v) → Srtd (fun v u => HT.lexLt (k v) (k u)) out → Stb (fun v u => HT.lexLt (k v) (k u)) out vs → (∀ b o, s.heap.get? b = some o → h'.get? b = some o) → s.heap.objs.size ≤ e → (∃ m, h'.get? e = some (seqObj "list" out.toArray m)) → Q (.ref e) { s with heap := h', toks := tk }) :
    wpAny (model prog w) A (call (.builtin "sorted") [.ref d]) Q E s := by
  refine Calls.call_function_entry kind_sorted plain_sorted entry_sorted (args_sorted1 _) ?_
  unfold Builtin.«sorted»
  refine wpAny_bind (m := checkCount "sorted" 1 1 _) (wpAny_pure ?_)
  refine wpAny_bind (collectD (A := A.in1) K hh hok hn fun h' tk acc' hk hlt hI => ?_)
  have hl : acc'.toList.length = n := by rw [Array.length_toList]; exact hI.1
  have hP : ∀ (i : Nat) (v : Value), acc'.toList[i]? = some v → P i v := fun i v e => hI.2 i v (by rw [← Array.getElem?_toList]; exact e)
  refine wpAny_bind (wpAny_newList ?_ (by rw [hl]; exact hn))
  have hoL : (h'.push (seqObj "list" acc'.toList.toArray 0)).get? h'.objs.size = some (seqObj "list" acc'.toList.toArray 0) := Heap.get?_push_size _ rfl
  have hks : ∀ b o, s.heap.get? b = some o → b ≠ h'.objs.size ∧ (h'.push (seqObj "list" acc'.toList.toArray 0)).get? b = some o := fun b o e => ⟨Nat.ne_of_lt (Heap.lt_size (hk b o e)), Heap.get?_push_of_some _ (hk b o e)⟩
  show wpAny _ _ _ _ _ { s with heap := h'.push (seqObj "list" acc'.toList.toArray 0), toks := tk }
  refine wpAny_bind (wpAny_holding (wpAny_call_entry slot_list_sort ⟨_, hoL, rfl⟩ entry_list_sort (list_sort_ord (NtL.swo_lexL k) hoL (by rw [hl]; exact hn) (fun h2 => tups_sortableL (by omega) (fun v hv => ?_) fun o e => ?_) fun out hs hb => ⟨_, rfl, ?_⟩) (args_list_sort _)))
  · obtain ⟨i, hi, rfl⟩ := List.mem_iff_getElem.mp hv
    obtain ⟨h1, h3⟩ := hp i _ (hP i _ (List.getElem?_eq_getElem hi))
    exact ⟨h1, h3.keeps fun b o e _ => (hks b o e).2⟩
  · have e' : some o = some (seqObj "list" acc'.toList.toArray 0) := e.symm.trans hoL
    cases e'
    intro c
    exact absurd (Value.type.inj c) (by decide)
  · refine wpAny_pure ⟨_, rfl, h (sortedHeap (h'.push (seqObj "list" acc'.toList.toArray 0)) h'.objs.size acc'.toList out.toArray) tk _ acc'.toList out hl hP hs hb (fun b o e => ?_) (Nat.le_of_lt (Nat.lt_of_lt_of_le hlt (Nat.le_refl _))) (sortedHeap_at hoL)⟩
    rw [sortedHeap_old (hks b o e).1 (Heap.lt_size (hks b o e).2)]
    exact (hks b o e).2
end
end SL
namespace L2
open PySem PySem.Spec PyProof.Rows
/-- sorted(d), d a dict whose keys are tuples of ints, none empty: a new list of them, sorted -/
def rSortedD : List V → Hp → VK → Prop := fun vs H Q => ∃ (d : Addr) (kvs : List (List Key × V)) (f : List Key → List Int), vs = [V.ref d] ∧ H d = some (.dT kvs) ∧ (∀ p ∈ kvs, f p.1 ≠ [] ∧ p.1.map kV = (f p.1).map V.int) ∧
  ∀ (ys : List (List Int × Addr)) p, (ys.map (·.1)).Perm (kvs.map fun q => f q.1) → SrtO.Srtd (fun x y => HT.lexLt x.1 y.1) ys → (∀ y ∈ ys, H y.2 = some (.tup (y.1.map V.int))) → H p = none → Q (.ref p) (upd H p (.lst (ys.map fun y => V.ref y.2)))
theorem paired_at {α β : Type} {R : α → β → Prop} : ∀ {xs : List α} {ys : List β}, Paired R xs ys → ∀ (i : Nat) {x : α} {y : β}, xs[i]? = some x → ys[i]? = some y → R x y
  | _, _, .nil, i, _, _, h, _ => by simp at h
  | _, _, .cons r t, 0, _, _, h, h2 => by cases h; cases h2; exact r
  | _, _, .cons r t, i + 1, _, _, h, h2 => paired_at t i (by simpa using h) (by simpa using h2)
section
variable {X : Cx}
theorem cr_sortedD (hc : X.calm = true) : CallR X (.builtin "sorted") rSortedD := by
  intro pins s σ H vs us Q I r h
  obtain ⟨d, kvs, f, rfl, hd, hf, q⟩ := h
  obtain rfl := Vals.ref1 r
  obtain ⟨z, hs, ks, rel, o, es, ep, ho, hx, hdat, hes, his, hn⟩ := dt_of I.hok hd
  have l1 : es.size = ks.length := size_of_entries hes
  have l2 : kvs.length = ks.length := Paired.length rel
  have hh : X.A.handled = none := I.ok.hd hc
  -- the key at i
  have key : ∀ (i : Nat) (v : Value), (∃ en : DictEntry, es[i]? = some en ∧ v = en.key) → ∃ (q : List Key × V) (b : Addr), kvs[i]? = some q ∧ v = Value.ref b ∧ H b = some (.tup ((f q.1).map V.int)) ∧ f q.1 ≠ [] := fun i v ⟨en, he, ev⟩ => by
    rw [entry_at hes i] at he
    cases hki : ks[i]? with
    | none => rw [hki] at he; exact nomatch (show none = some en from he)
    | some x =>
      rw [hki] at he
      have e2 : entryOfKey (tupleKind (mixKind X.prog X.w)) x = en := Option.some.inj he
      have hil : i < kvs.length := by rw [l2]; exact (List.getElem?_eq_some_iff.mp hki).1
      have hq : kvs[i]? = some kvs[i] := List.getElem?_eq_getElem hil
      have hp := paired_at rel i hq hki
      obtain ⟨f1, f2⟩ := hf _ (List.mem_of_getElem? hq)
      refine ⟨kvs[i], x.2.1, hq, by rw [ev, ← e2]; rfl, ?_, f1⟩
      rw [← f2]
      exact hp.2.1
  have isT : ∀ (i : Nat) (v : Value), (∃ en : DictEntry, es[i]? = some en ∧ v = en.key) → ∃ (q : List Key × V) (b : Addr), kvs[i]? = some q ∧ v = Value.ref b ∧ H b = some (.tup ((f q.1).map V.int)) ∧ f q.1 ≠ [] ∧ TS.intsOf s.heap v = f q.1 := fun i v hv => by
    obtain ⟨q, b, h1, h2, h3, h4⟩ := key i v hv
    refine ⟨q, b, h1, h2, h3, h4, ?_⟩
    rw [h2]
    obtain ⟨itz, rz, hz, _⟩ := I.tuple (SqT.of (K := X.K) h3)
    exact (show TS.TupInts s.heap (.ref b) (f q.1) from ⟨b, itz.toArray, rfl, hz, by simpa using rz.ints⟩).ints
  refine SL.sortedD (k := TS.intsOf s.heap) (kdl_raw hs hx hdat) hh ho (by omega) (fun i v hv => ?_) fun h' tk e vs out hvl hvP hso hst hk he hm => ?_
  · obtain ⟨q, b, h1, h2, h3, h4, h5⟩ := isT i v hv
    rw [h5]
    refine ⟨h4, ?_⟩
    obtain ⟨its2, rv2, ⟨o2, ho2, hc2, n2, hd2⟩, _⟩ := I.tuple (SqT.of (K := X.K) h3)
    rw [h2]
    exact ⟨b, o2, _, n2, rfl, ho2, hc2, hd2, (show SL.Ints2 its2 (f q.1) from rv2.ints)⟩
  · have hmem : ∀ u ∈ out, ∃ (q : List Key × V) (b : Addr), u = Value.ref b ∧ H b = some (.tup ((f q.1).map V.int)) ∧ TS.intsOf s.heap u = f q.1 := fun u hu => by
      obtain ⟨i, hi, rfl⟩ := List.mem_iff_getElem.mp (hst.perm.mem_iff.mp hu)
      obtain ⟨q, b, h1, h2, h3, h4, h5⟩ := isT i _ (hvP i _ (List.getElem?_eq_getElem hi))
      exact ⟨q, b, h2, h3, h5⟩
    have eo : out = (out.map adO).map Value.ref := ref_map fun u hu => by
      obtain ⟨q, b, e, _⟩ := hmem u hu
      exact ⟨b, e⟩
    obtain ⟨n, hn'⟩ := hm
    have hvk : vs.map (TS.intsOf s.heap) = kvs.map fun q => f q.1 := by
      apply List.ext_getElem?
      intro i
      rw [List.getElem?_map, List.getElem?_map]
      by_cases hi : i < vs.length
      · have hv := List.getElem?_eq_getElem hi
        obtain ⟨q, b, h1, h2, h3, h4, h5⟩ := isT i _ (hvP i _ hv)
        rw [hv, h1]
        exact congrArg some h5
      · rw [List.getElem?_eq_none (by omega), List.getElem?_eq_none (by omega)]; rfl
    have e1 : ((out.map fun u => (TS.intsOf s.heap u, adO u)).map fun y => V.ref y.2) = (out.map adO).map V.ref := by
      rw [List.map_map, List.map_map]; rfl
    have hlen : ((out.map adO).map V.ref).length ≤ sizeLine := by
      rw [List.length_map, List.length_map, hst.len, hvl, l1, ← l2]; exact z
    have rvo : Vals ((out.map adO).map V.ref) out := by
      have z := of_nts (out.map adO)
      rw [← eo] at z
      exact z
    have q' := q (out.map fun u => (TS.intsOf s.heap u, adO u)) e (by
      have e2 : ((out.map fun u => (TS.intsOf s.heap u, adO u)).map (·.1)) = out.map (TS.intsOf s.heap) := by rw [List.map_map]; rfl
      rw [e2, ← hvk]
      exact hst.perm.map _) (List.pairwise_map.mpr hso) (fun y hy => by
      obtain ⟨u, hu, rfl⟩ := List.mem_map.mp hy
      obtain ⟨qq, b, e3, h3, h5⟩ := hmem u hu
      show H (adO u) = some (.tup ((TS.intsOf s.heap u).map V.int))
      rw [h5, e3]
      exact h3) (I.hok.fresh he)
    rw [e1] at q'
    exact ⟨.ref e, upd H e (.lst ((out.map adO).map V.ref)), I.laid (t' := tk) hk he ⟨hlen, out, n, rvo, hn'⟩, rfl, q'⟩
end
end L2

namespace L2
open PySem PySem.Spec PyProof.Rows
/-! ### dicts with tuple keys: a key goes -/
section
variable {X : Cx} {pins : List (Addr × Obj)} {σ : St} {H : Hp} {s : Shared} {a b : Addr} {A : Around} {E : Value → Shared → Prop} {kvs : List (List Key × V)} {k : List Key}
theorem valT_some {xs : List (List Key × Addr × Value)} {v : V} (r : KT H kvs xs) (e : valV kvs k = some v) : ∃ p, atKey xs k = some p ∧ RelV v p.2 := by
  have q := r.val k
  rw [e] at q
  cases h : atKey xs k with
  | none => rw [h] at q; exact (show False from q).elim
  | some p => rw [h] at q; exact ⟨p, rfl, q⟩
theorem dt_gone (I : Inv X pins σ H s) (ha : H a = some (.dT kvs)) {xs : List (List Key × Addr × Value)} (rel : KT H kvs xs) (hz : kvs.length ≤ sizeLine) (hd : (a == sysModules) = false) {h' : Heap} {tk : Nat} (dd : h'.DictOfH (tupleKind (mixKind X.prog X.w)) a (withoutH xs k)) (hs : Heap.SameBut a s.heap h') :
    Inv X pins σ (upd H a (.dT (dropK kvs k))) { s with heap := h', toks := tk } := by
  obtain ⟨ob, es, ep, h1, h2, h3, h4, _, h5⟩ := dd
  refine d_write I (by rw [ha]; exact True.intro) hs ⟨ob, h1⟩ ⟨Nat.le_trans (dropK_le kvs k) hz, hd, _, (DX.KT_drop k rel).keeps (fun c ys ec => ?_), ob, es, ep, h1, h2, h3, h4, h5⟩
  exact (upd_ne (ne_of ec ha (fun z => nomatch z))).trans ec
/-- del d[k] -/
def sDDelT (td ty : TE) : TS := fun D σ H => td σ H fun x H1 => ty σ H1 fun y H2 => ∃ a b kvs k v, x = .ref a ∧ y = .ref b ∧ H2 a = some (.dT kvs) ∧ H2 b = some (.tup (k.map kV)) ∧ valV kvs k = some v ∧ D.nx σ (upd H2 a (.dT (dropK kvs k)))
theorem ps_ddelT {o i : Expr} {td ty : TE} {tpos pos : Pos} (hu : X.A.units + 1 < cLine) (ho : PE X o td) (hi : PE X i ty) : PS X (.Delete [.Subscript o i tpos] pos) (sDDelT td ty) := by
  refine ⟨fun pins s σ H D I h => ?_⟩
  refine wpAny_Delete (wpAny_deleteEach_cons (wpAny_delete_Subscript (thn (ho.run pins s σ H _ I h) fun u s1 ⟨x, H1, I1, rx, q1⟩ => thn (hi.run pins s1 σ H1 _ I1 q1) fun iv s2 ⟨y, H2, I2, ry, q2⟩ => ?_)))
  obtain ⟨a, b, kvs, k, v, rfl, rfl, ha, hb, hv, q⟩ := q2
  obtain rfl : u = Value.ref a := rx
  obtain rfl : iv = Value.ref b := ry
  obtain ⟨z, hd, xs, rel, dd⟩ := dt_of I2.hok ha
  obtain ⟨p, hp, _⟩ := valT_some rel hv
  exact wpAny_delItem_heap (hsz := by rw [← Paired.length rel]; exact z) (tupleKind_room_in1 hu) (key_of I2.hok hb) hd dd hp fun h' dd' hs => wpAny_deleteEach_nil ⟨σ, _, dt_gone I2 ha rel z hd dd' hs, q⟩
/-- d.pop(k), there -/
def rPopT1 : V → List V → Hp → VK → Prop := fun x xs H Q => ∃ (a b : Addr) (kvs : List (List Key × V)) (k : List Key) (v : V), x = .ref a ∧ xs = [.ref b] ∧ H a = some (.dT kvs) ∧ H b = some (.tup (k.map kV)) ∧ valV kvs k = some v ∧ Q v (upd H a (.dT (dropK kvs k)))
theorem mt_popT1 (hu : X.A.units + 1 < cLine) : MtR X "dict.pop" rPopT1 := by
  intro pins s σ H x xs v us Q I rx rxs h
  obtain ⟨a, b, kvs, k, v0, rfl, rfl, ha, hb, hv, q⟩ := h
  obtain rfl : v = Value.ref a := rx
  obtain ⟨u1, rfl, r1⟩ := rxs.one
  obtain rfl : u1 = Value.ref b := r1
  obtain ⟨z, hd, ys, rel, dd⟩ := dt_of I.hok ha
  obtain ⟨p, hp, rp⟩ := valT_some rel hv
  exact call_pop_heap (hsz := by rw [← Paired.length rel]; exact z) (.inl rfl) (PySem.F.args_dict_pop_2 _ _) (tupleKind_room_in1 hu) (key_of I.hok hb) hd dd hp fun h' dd' hs => ⟨v0, _, dt_gone I ha rel z hd dd' hs, rp, q⟩
end
section
variable {K : PySem.W.Frag} {σ : St} {H : Hp} {td ty : TE} {f b' c' : St → Hp → Prop} {rt : VK}
theorem w_ddelT (q : td σ H fun x H1 => ty σ H1 fun y H2 => ∃ a b kvs k v, x = .ref a ∧ y = .ref b ∧ H2 a = some (.dT kvs) ∧ H2 b = some (.tup (k.map kV)) ∧ valV kvs k = some v ∧ f σ (upd H2 a (.dT (dropK kvs k)))) : sDDelT td ty ⟨f, rt, b', c'⟩ σ H := q
end
/-! ### len(o), list(o) of an object whose class has its own __len__ and an __iter__ that gives iter(a list) -/
abbrev LenC (K : PySem.W.Frag) (C f : Addr) : Prop := Meth K C "__len__" f
abbrev IterC (K : PySem.W.Frag) (C f : Addr) : Prop := Meth K C "__iter__" f
section
variable {M : Model} {A : Around} {E : Value → Shared → Prop} {s : Shared} {K : PySem.W.Frag} {x C f : Addr} {ox : Obj} {od : Option Obj} {name : Str}
open PySem.W in
theorem special_fn {Q : Option Value → Shared → Prop} (X : K.In s.heap) (I : InstAt s.heap x ox C od) (hs : findIn K (.ref C) name = some (some (.ref f))) (hf : isFn K (.ref f) = true)
    (h : wpAny M A (call (.ref f) [.ref x]) (fun v => Q (some v)) E s) : wpAny M A (callSpecial? (.ref x) name) Q E s := by
  unfold callSpecial?
  have sp : Looks M s.heap (specialOf (.ref x) name) (some (.ref f)) := I.type.andThen (looks_findIn X hs)
  refine wpAny_bind (sp.here ?_)
  refine wpAny_holding (wpAny_bind ((bind_fn X _ (beq_iff_eq.mp hf)).here ?_))
  exact wpAny_bind (wpAny_mono h (fun v s' h' => wpAny_pure h') fun _ _ z => z)
end
section
variable {X : Cx} {C f : Addr} {fd : FuncData} {ps : List Str} {sp : Sp} {n : Nat}
/-- a call of a function with one object -/
theorem own_run1 {A : Around} {pins : List (Addr × Obj)} {σ : St} {H : Hp} {s : Shared} {Q : VK} {a : Addr} (F : FnOk X.prog X.w X.K X.mg X.base CX0 n f fd ps sp) (hr : Room n A) (hfr : A.frames = X.A.frames) (hb : Binds X.K fd ps [])
    (I : Inv X pins σ H s) (h : sp [.ref a] H Q (fun _ _ _ => False)) : wpAny (model X.prog X.w) A (call (.ref f) [.ref a]) (EP X pins σ Q) (fun _ _ => False) s := by
  have e0 : Env0 X.prog X.w X.K X.mg X.base A X.stack s H := by
    have e := I.env0
    exact ⟨by rw [hfr]; exact e.frames, e.mod, e.bs, e.bsz, e.funs, e.frf, e.hok, e.bare⟩
  have hl := F.len _ _ _ _ h
  have r2 : Vals [V.ref a] [Value.ref a] := .cons rfl .nil
  refine wpAny_call (codeAny_mono (F.run A X.stack s H ⟨[.ref a], []⟩ [.ref a] [.ref a] _ _ hr e0 (by
    have := hb s [.ref a] I.kIn (by simpa using hl)
    simpa using this) r2 h) fun r s' hq => ?_)
  cases r with
  | error e => exact hq
  | ok fl =>
    cases fl with
    | ret w => exact I.after hq
    | next => exact False.elim hq
    | brk => exact False.elim hq
    | cont => exact False.elim hq
/-- len(o) -/
def rLenO (C : Addr) (sp : Sp) : List V → Hp → VK → Prop := fun xs H Q => ∃ a dx fs, xs = [.ref a] ∧ H a = some (.ins C dx fs) ∧ sp [.ref a] H (fun v H' => ∃ m : Nat, v = .int (m : Int) ∧ m ≤ 1000000 ∧ Q (.int (m : Int)) H') (fun _ _ _ => False)
theorem len_own {A : Around} {pins : List (Addr × Obj)} {σ : St} {H : Hp} {s : Shared} {R : VK} {a dx : Addr} {fs : List (Str × V)} (e : LenC X.K C f) (F : FnOk X.prog X.w X.K X.mg X.base CX0 n f fd ps sp) (hr : Room n A.in1) (hfr : A.frames = X.A.frames) (hb : Binds X.K fd ps [])
    (I : Inv X pins σ H s) (ha : H a = some (.ins C dx fs)) (hR : ∀ v H', R v H' → ∃ m : Nat, v = .int (m : Int) ∧ m ≤ 1000000) (h : sp [.ref a] H R (fun _ _ _ => False)) :
    wpAny (model X.prog X.w) A (call (.builtin "len") [.ref a]) (EP X pins σ R) (fun _ _ => False) s := by
  obtain ⟨mA, J, _⟩ := ins_get I.hok ha
  obtain ⟨od, J, _⟩ := J.look
  refine Calls.call_function_entry kind_len plain_len entry_len (args_len1 _) ?_
  unfold Builtin.«len»
  refine wpAny_bind (m := oneArg "len" _) (wpAny_pure ?_)
  refine wpAny_bind (m := callSpecial? (.ref a) (PySem.Str.ofString "__len__")) (special_fn I.kIn J e.at_ e.fn (wpAny_mono (own_run1 F hr hfr hb I h) (fun r s' z => ?_) fun _ _ z => z))
  obtain ⟨v, H', I', rv, q⟩ := z
  obtain ⟨m, rfl, hm⟩ := hR _ _ q
  obtain ⟨t, rfl⟩ : ∃ t, r = Value.int (m : Int) t := rv
  refine wpAny_bind (wpAny_holding (wpAny_pure ?_))
  refine wpAny_bind (wpAny_letGo ?_)
  show wpAny _ _ (if ((m : Nat) : Int) < 0 then _ else _) _ _ _
  rw [if_neg (by omega)]
  show wpAny _ _ (if ((m : Nat) : Int) ≥ 2 ^ 63 then _ else _) _ _ _
  rw [if_neg (by omega)]
  exact wpAny_bind (wpAny_mkInt (wpAny_pure ⟨_, rfl, .int (m : Int), H', I'.tok _, ⟨_, rfl⟩, q⟩))
theorem call_lenO (e : LenC X.K C f) (F : FnOk X.prog X.w X.K X.mg X.base CX0 n f fd ps sp) (hr : Room (n + 1) X.A) (hb : Binds X.K fd ps []) : CallR X (.builtin "len") (rLenO C sp) := by
  intro pins s σ H xs us Q I rx h
  obtain ⟨a, dx, fs, rfl, ha, h⟩ := h
  obtain ⟨u, rfl, ru⟩ := rx.one
  obtain rfl : u = Value.ref a := ru
  refine wpAny_mono (len_own e F hr.in1 rfl hb I ha (fun v H' ⟨m, e, h, _⟩ => ⟨m, e, h⟩) h) (fun r s' z => ?_) fun _ _ z => z.elim
  obtain ⟨v, H', I', rv, m, rfl, hm, q⟩ := z
  exact ⟨_, H', I', rv, q⟩
/-- an iterator is forgotten, a list is filled -/
theorem inv_fill {pins : List (Addr × Obj)} {σ : St} {H : Hp} {s : Shared} {a b : Addr} {φ : Heap → Prop} {xs ys : List V} {h' : Heap} {tk : Nat} (I : Inv X pins σ H s) (ha : H a = some (.ext φ)) (hb : H b = some (.lst xs))
    (k : ∀ c o, c ≠ a → c ≠ b → s.heap.get? c = some o → h'.get? c = some o) (ea : ∃ o, h'.get? a = some o) (new : ObjOk X.prog X.w (upd (ItX.dropH H a) b (.lst ys)) h' b (.lst ys)) (eb : ∃ o, h'.get? b = some o) :
    Inv X pins σ (upd (ItX.dropH H a) b (.lst ys)) { s with heap := h', toks := tk } := by
  have hab : a ≠ b := fun z => by rw [z, hb] at ha; cases ha
  have other : ∀ c u, H c = some u → (∀ ψ, u ≠ .ext ψ) → (∀ zs, u ≠ .lst zs) → upd (ItX.dropH H a) b (.lst ys) c = some u := fun c u e n1 n2 => by
    have h1 : c ≠ a := fun z => by rw [z, ha] at e; exact n1 φ (Option.some.inj e).symm
    have h2 : c ≠ b := fun z => by rw [z, hb] at e; exact n2 xs (Option.some.inj e).symm
    rw [upd_ne h2, ItX.dropH_ne h1]
    exact e
  refine I.un ⟨fun c o e n _ _ => k c o (fun z => by rw [z, ha] at n; cases n) (fun z => by rw [z, hb] at n; cases n) e, fun c o e n _ _ => ⟨o.slots, k c o (fun z => by rw [z, ha] at n; cases n) (fun z => by rw [z, hb] at n; cases n) e⟩, fun c o _ n _ => ?_, fun c o e _ => ?_,
    fun c zs e => other c _ e (fun _ w => nomatch w) (fun _ w => nomatch w), fun c o u e => other c _ e (fun _ w => nomatch w) (fun _ w => nomatch w), fun c ps e => ⟨#[], by rw [other c _ e (fun _ w => nomatch w) (fun _ w => nomatch w)]; simp⟩⟩ fun c u e => ?_
  · have h2 : c ≠ b := fun z => by rw [z, hb] at n; cases n
    rw [upd_ne h2]
    by_cases h1 : c = a
    · rw [h1, ItX.dropH_same]
    · rw [ItX.dropH_ne h1]; exact n
  · by_cases h1 : c = a
    · rw [h1]; exact ea
    · by_cases h2 : c = b
      · rw [h2]; exact eb
      · exact ⟨o, k c o h1 h2 e⟩
  · by_cases h2 : c = b
    · subst h2
      rw [upd_same] at e
      cases e
      exact new
    · rw [upd_ne h2] at e
      have h1 : c ≠ a := fun z => by rw [z, ItX.dropH_same] at e; cases e
      rw [ItX.dropH_ne h1] at e
      refine (I.hok c u e).stay (fun d v hd q => k d v (fun z => ?_) (fun z => ?_) q) (fun d z => other d _ z (fun _ w => nomatch w) (fun _ w => nomatch w)) fun d zs z => other d _ z (fun _ w => nomatch w) (fun _ w => nomatch w)
      · rcases hd with w | w
        · exact h1 (w.symm.trans z)
        · rw [z, ha] at w; cases w
      · rcases hd with w | w
        · exact h2 (w.symm.trans z)
        · rw [z, hb] at w; cases w
/-- next of an iterator over a list, its object told -/
theorem it_next {A : Around} {E : Value → Shared → Prop} {s : Shared} {it l : Addr} {i : Nat} {items : Array Value} {x : Value} {Q : Option Value → Shared → Prop} (ho : s.heap.get? it = some (GNX.itObj l i)) (hl : s.heap.IsList l items) (hx : items[i]? = some x)
    (hQ : ∀ h', h'.get? it = some (GNX.itObj l (i + 1)) → Heap.SameBut it s.heap h' → Q (some x) { s with heap := h' }) : wpAny (model X.prog X.w) A (pyNext (.ref it)) Q E s := by
  unfold pyNext
  exact wpAny_bind (wpAny_attempt (wpAny_callSpecial?_slot (name := Str.ofString "__next__") ⟨_, ho, rfl⟩ slot_listiter_next (wpAny_call_entry slot_listiter_next ⟨_, ho, rfl⟩ entry_listiter_next (GNX.next_item ho hl hx fun h' g k => wpAny_pure (hQ h' g k)) (args_listiter_next _))))
theorem it_end {A : Around} {E : Value → Shared → Prop} {s : Shared} {it l : Addr} {i : Nat} {items : Array Value} {Q : Option Value → Shared → Prop} (hh : A.handled = none) (ho : s.heap.get? it = some (GNX.itObj l i)) (hl : s.heap.IsList l items) (hx : items[i]? = none)
    (hQ : ∀ h', (∃ o, h'.get? it = some o) → (∀ b o, b ≠ it → s.heap.get? b = some o → h'.get? b = some o) → Q none { s with heap := h' }) : wpAny (model X.prog X.w) A (pyNext (.ref it)) Q E s := by
  unfold pyNext
  refine wpAny_bind (wpAny_attempt (wpAny_callSpecial?_slot (name := Str.ofString "__next__") ⟨_, ho, rfl⟩ slot_listiter_next (wpAny_call_entry slot_listiter_next ⟨_, ho, rfl⟩ entry_listiter_next (GNX.next_end hh ho hl hx fun h1 h' e vs g1 sb kp _ ge _ => ?_) (args_listiter_next _))))
  refine wpAny_bind (wpAny_isInstance (T := "StopIteration") (b := true) ⟨_, ge, rfl⟩ isSubtype_stop ?_)
  exact wpAny_pure (hQ h' ⟨_, kp _ _ g1⟩ fun b o n z => kp _ _ ((sb.2 b n).trans z))
/-- a list takes what an iterator over another list still gives -/
theorem it_fill {A : Around} {R : Result → Shared → Prop} {it l q : Addr} {items : Array Value} (hh : A.in1.handled = none) (hli : l ≠ it) (hlq : l ≠ q) (hqi : q ≠ it) (hz : items.size ≤ sizeLine) : ∀ (k i : Nat) (s : Shared) (acc : Array Value) (c : Nat), items.size - i = k → i ≤ items.size → acc = items.take i → s.heap.get? it = some (GNX.itObj l i) → s.heap.IsList l items →
    s.heap.get? q = some { cls := .type "list", data := .seq acc c } → (∀ h' c', (∃ o, h'.get? it = some o) → (∀ b o, b ≠ it → b ≠ q → s.heap.get? b = some o → h'.get? b = some o) → h'.get? q = some { cls := .type "list", data := .seq items c' } → R (.ok (.ret .none)) { s with heap := h' }) →
    codeAny (model X.prog X.w) A (.builtin "list.extend.loop" ⟨[.ref q, .ref it, .none], []⟩) R s
  | 0, i, s, acc, c, hk, hi, ha, ho, hl, hq, hR => by
    refine codeAny_builtin PySem.F.entry_extend_loop ?_
    rw [Around.under_plainId PySem.F.plain_extend_loop _]
    show wpAny _ A.in1 (pyNext (.ref it) >>= _) _ _ s
    have e : acc = items := by rw [ha, show i = items.size by omega]; simp
    subst e
    exact wpAny_bind (it_end hh ho hl (by simp; omega) fun h' g kp => wpAny_pure (hR h' c g (fun b o n _ z => kp b o n z) (kp q _ hqi hq)))
  | k + 1, i, s, acc, c, hk, hi, ha, ho, hl, hq, hR => by
    refine codeAny_builtin PySem.F.entry_extend_loop ?_
    rw [Around.under_plainId PySem.F.plain_extend_loop _]
    show wpAny _ A.in1 (pyNext (.ref it) >>= _) _ _ s
    have hlt : i < items.size := by omega
    refine wpAny_bind (it_next ho hl (x := items[i]) (by simp [hlt]) fun h' g sb => ?_)
    have hq' : h'.get? q = some { cls := .type "list", data := .seq acc c } := (sb.2 q hqi).trans hq
    show wpAny _ A.in1 (updateSeq q (·.push items[i]) >>= _) _ _ _
    refine wpAny_bind (wpAny_updateSeq hq' rfl (wpAny_pure ⟨plainId_quiet PySem.F.plain_extend_loop _, ?_⟩) ?_ ?_)
    · refine it_fill hh hli hlq hqi hz k (i + 1) _ (acc.push items[i]) _ (by omega) hlt ?_ ((Heap.get?_update_other _ _ hqi).trans g) ?_ (Heap.get?_update_self _ hq' rfl) fun h2 c' e1 kp e2 => ?_
      · rw [ha, ← Array.toList_inj]
        simp [List.take_add_one, hlt]
      · obtain ⟨o, e1, e2, n, e3⟩ := hl
        exact ⟨o, (Heap.get?_update_other _ _ (Ne.symm hlq)).trans ((sb.2 l hli).trans e1), e2, n, e3⟩
      · exact hR h2 c' e1 (fun b o n1 n2 z => kp b o n1 n2 ((Heap.get?_update_other _ _ (Ne.symm n2)).trans ((sb.2 b n1).trans z))) e2
    · rw [ha]; simp; omega
    · show (acc.push items[i]).size ≤ sizeLine + 1
      rw [ha]; simp; omega
/-- list(o) -/
def rListO (C : Addr) (spI spL : Sp) : List V → Hp → VK → Prop := fun xs H Q => ∃ a dx fs, xs = [.ref a] ∧ H a = some (.ins C dx fs) ∧ ∀ q, H q = none →
  spI [.ref a] (upd H q (.lst [])) (fun v H1 => ∃ (it l : Addr) (ys : List V), v = .ref it ∧ H1 it = some (ItO l it 0) ∧ H1 l = some (.lst ys) ∧ H1 q = some (.lst []) ∧ l ≠ q ∧ H1 a = some (.ins C dx fs) ∧
    spL [.ref a] H1 (fun v H2 => ∃ m : Nat, v = .int (m : Int) ∧ m ≤ 1000000 ∧ H2 it = some (ItO l it 0) ∧ H2 l = some (.lst ys) ∧ H2 q = some (.lst []) ∧ Q (.ref q) (upd (ItX.dropH H2 it) q (.lst ys))) (fun _ _ _ => False)) (fun _ _ _ => False)
variable {fl : Addr} {fdL : FuncData} {psL : List Str} {spL : Sp}
theorem call_listO (hc : X.calm = true) (ei : IterC X.K C f) (F : FnOk X.prog X.w X.K X.mg X.base CX0 n f fd ps sp) (hb : Binds X.K fd ps []) (el : LenC X.K C fl) (FL : FnOk X.prog X.w X.K X.mg X.base CX0 n fl fdL psL spL) (hbL : Binds X.K fdL psL []) (hr : Room (n + 4) X.A) :
    CallR X (.type "list") (rListO C sp spL) := by
  intro pins s σ H xs us Q I rv h
  obtain ⟨a, dx, fs, rfl, ha, hq⟩ := h
  obtain ⟨u, rfl, ru⟩ := rv.one
  obtain rfl : u = Value.ref a := ru
  have rm : Room n X.A.in1.in1.in1 := ((hr.in1).in1).in1.mono (by omega)
  refine callType_codes (Q₁ := fun obj s₁ => obj = .ref s.heap.objs.size ∧ s₁ = { s with heap := s.heap.push { cls := .type "list", data := .seq #[] } }) PySem.F.called_list (PySem.F.typeCall_list_1 _) PySem.F.entry_list_init (code_list_new _ ⟨rfl, rfl⟩) fun obj s₁ h₁ => ?_
  obtain ⟨rfl, rfl⟩ := h₁
  have fr : H s.heap.objs.size = none := I.hok.fresh (Nat.le_refl _)
  have I1 : Inv X pins σ (upd H s.heap.objs.size (.lst [])) { s with heap := s.heap.push { cls := .type "list", data := .seq #[] } } := I.lnew (its := []) (t' := s.toks) .nil (Nat.zero_le _)
  have hS : (s.heap.push { cls := .type "list", data := .seq #[] }).get? s.heap.objs.size = some { cls := .type "list", data := .seq #[] } := Heap.get?_push_size _ rfl
  refine ⟨⟨_, hS, rfl⟩, PySem.F.args_list_init_2 _ _, ?_⟩
  have hq := hq _ fr
  generalize s.heap.objs.size = q at hS I1 fr hq ⊢
  show wpAny _ _ (do let old ← Builtin.List.listItems (.ref q); Builtin.List.listUpdate (.ref q) (fun _ => #[]); letGo old.toList.reverse; Builtin.List.listExtendWith (.ref q) (.ref a) .none) _ _ _
  refine wpAny_bind ?_
  unfold Builtin.List.listItems
  refine wpAny_bind (wpAny_seqItems hS rfl (wpAny_pure ?_))
  show wpAny _ _ (updateSeq q (fun _ => #[]) >>= fun _ => letGo (#[] : Array Value).toList.reverse >>= fun _ => Builtin.List.listExtendWith (.ref q) (.ref a) .none) _ _ _
  refine wpAny_bind (wpAny_updateSeq hS rfl ?_)
  have I2 := I1.lset (f := fun _ => #[]) (its := []) (its' := []) (ys := []) (t' := s.toks) upd_same hS rfl .nil (Nat.zero_le _)
  rw [upd_upd] at I2
  refine wpAny_bind (wpAny_letGo ?_)
  have ha2 : upd H q (.lst []) a = some (.ins C dx fs) := by rw [upd_ne (ne_of_none ha fr)]; exact ha
  generalize ({ heap := (s.heap.push { cls := Value.type "list", data := Data.seq #[] }).update q (Obj.mapSeq fun _ => #[]), gens := s.gens, drawn := s.drawn, toks := s.toks, os := s.os } : Shared) = s2 at I2 ⊢
  have hqa : q ≠ a := fun z => by rw [z, ha] at fr; cases fr
  obtain ⟨mA, J, _⟩ := ins_get I2.hok ha2
  obtain ⟨od, J, _⟩ := J.look
  obtain ⟨m0, hF⟩ := I2.fr
  unfold Builtin.List.listExtendWith
  refine wpAny_bind (J.type.here ?_)
  have h1 : Builtin.List.listSameRef (.ref q) (.ref a) = false := by simp [Builtin.List.listSameRef, hqa]
  simp only [h1, show (Value.ref C == Value.type "list") = false from rfl, show (Value.ref C == Value.type "tuple") = false from rfl, Bool.or_false, Bool.false_eq_true, if_false]
  refine wpAny_bind (PySem.W.owit_iter hF I2.ok.mod.kin J ei.at_ ei.fn (wpAny_mono (own_run1 (A := X.A.in1.in1) F (hr.in1.in1.mono (by omega)) rfl hb I2 hq) (fun r s3 z => ?_) fun _ _ z => z.elim))
  obtain ⟨v, H3, I3, rv3, it, l, ys, rfl, hit, hl, hq3, hlq, ha3, hL⟩ := z
  obtain rfl : r = Value.ref it := rv3
  have git := itO_get I3 hit
  unfold PySem.W.OwitIt
  refine wpAny_specialOf (T := "list_iterator") ⟨_, git, rfl⟩ slot_listiter_next.lookup ?_
  show wpAny (model X.prog X.w) X.A.in1.in1 _ _ _ s3
  refine wpAny_bind (wpAny_holding ?_)
  obtain ⟨mA3, J3, _⟩ := ins_get I3.hok ha3
  obtain ⟨od3, J3, _⟩ := J3.look
  unfold Builtin.List.listLengthHint
  refine wpAny_bind (wpAny_bind (J3.type.here ((PySem.W.looks_findIn I3.kIn el.at_).here ?_)))
  refine PySem.W.KFB.if_not rfl ?_
  refine PySem.W.KFB.if_so rfl ?_
  refine wpAny_bind (wpAny_rule ?_)
  refine wpAny_bind (wpAny_attempt (wpAny_mono (len_own (A := X.A.in1.in1) el FL rm rfl hbL I3 ha3 (fun v H' ⟨m, e, h, _⟩ => ⟨m, e, h⟩) hL) (fun r s4 z => ?_) fun _ _ z => z.elim))
  obtain ⟨v, H4, I4, rv4, m, rfl, hm, hit4, hl4, hq4, hQ⟩ := z
  obtain ⟨t, rfl⟩ : ∃ t, r = Value.int (m : Int) t := rv4
  refine wpAny_bind (m := asInt? _) (wpAny_pure ?_)
  refine PySem.W.KFB.if_not ?_ ?_
  · show decide ((m : Int).toNat > sizeLine) = false
    rw [sizeLine_eq]
    exact decide_eq_false (by omega)
  refine wpAny_pure ?_
  have hh : X.A.in1.in1.handled = none := I.ok.hd hc
  have fin : ∀ (H5 : Hp) (s5 : Shared), Inv X pins σ H5 s5 → H5 it = some (ItO l it 0) → H5 l = some (.lst ys) → H5 q = some (.lst []) → Q (.ref q) (upd (ItX.dropH H5 it) q (.lst ys)) →
      (Code.builtin "list.extend.loop" { pos := [Value.ref q, Value.ref it, Value.none] }).quiet = true ∧ codeAny (model X.prog X.w) X.A.in1 (Code.builtin "list.extend.loop" { pos := [Value.ref q, Value.ref it, Value.none] }) (wants (fun r s₂ => r = Value.none ∧ EP X pins σ Q (Value.ref q) s₂) X.xe) s5 := fun H5 s5 I5 it5 l5 q5 hQ5 => by
    refine ⟨plainId_quiet PySem.F.plain_extend_loop _, ?_⟩
    obtain ⟨zl, its, nl, rl, el5, gl⟩ := I5.lstM l5
    obtain ⟨_, itq, nq, rq, elq, gq⟩ := I5.lstM q5
    have gi := itO_get I5 it5
    have eq0 : itq = [] := by
      cases itq with
      | nil => rfl
      | cons a b => simp at elq
    subst eq0
    have hli : l ≠ it := fun z => by rw [z, it5] at l5; cases l5
    have hqi : q ≠ it := fun z => by rw [z, it5] at q5; cases q5
    exact it_fill hh hli hlq hqi (by simp only [List.size_toArray]; omega) _ 0 s5 #[] nq rfl (Nat.zero_le _) (by simp) gi ⟨_, gl, rfl, _, rfl⟩ gq fun h6 c ei kp g6 =>
      ⟨rfl, .ref q, _, inv_fill (tk := s5.toks) (h' := h6) I5 it5 q5 (fun c o n1 n2 e => kp c o n1 n2 e) ei ⟨zl, its, c, rl, g6⟩ ⟨_, g6⟩, rfl, hQ5⟩
  refine wpAny_ite_split (fun _ => ?_) (fun _ => wpAny_pure (fin H4 s4 I4 hit4 hl4 hq4 hQ))
  refine wpAny_bind (wpAny_rule ?_)
  obtain ⟨z4, its4, k4, r4, hl4', e4⟩ := I4.lstM hq4
  cases r4
  refine wpAny_bind ?_
  show wpAny _ _ (updateSeq q (·.push .none) >>= fun _ => updateSeq q (·.pop)) _ _ _
  refine wpAny_bind (wpAny_updateSeq e4 rfl ?_)
  have I5 := I4.lset (f := (·.push Value.none)) (its' := [Value.none]) (ys := [.non]) (t' := s4.toks) hq4 e4 (by simp) (.cons rfl .nil) (by rw [List.length_singleton, sizeLine_eq]; decide)
  obtain ⟨z5, its5, k5, r5, hl5, e5⟩ := I5.lstM upd_same
  obtain ⟨u5, rfl, ru5⟩ := r5.one
  refine wpAny_updateSeq e5 rfl ?_ (by show 1 ≤ sizeLine; rw [sizeLine_eq]; decide) (by show 0 ≤ sizeLine + 1; exact Nat.zero_le _)
  have I6 := I5.lset (f := (·.pop)) (its := [u5]) (its' := []) (ys := []) (t' := s4.toks) upd_same e5 (by rfl) .nil (Nat.zero_le _)
  rw [upd_upd] at I6
  have eH : upd H4 q (.lst []) = H4 := by
    funext b
    by_cases z : b = q
    · rw [z, upd_same, hq4]
    · rw [upd_ne z]
  rw [eH] at I6
  exact wpAny_pure (fin H4 _ I6 hit4 hl4 hq4 hQ)
end
section
variable {X : Cx} {K : PySem.W.Frag}
theorem k_sortedL (h : X.K = K) : CallR X (.builtin "sorted") (rSortedL K) := h ▸ cr_sortedL
theorem k_iterL (h : X.K = K) : CallR X (.builtin "iter") (rIter K) := h ▸ call_iterL
end
end L2

namespace L2
open PySem PySem.Spec PyProof.Rows
/-! ### for k in range(size, len + 1, size) -/
theorem RgC.mul {size len : Nat} (h1 : 1 ≤ size) (h2 : size ≤ 1000) (h3 : len ≤ 1000000) : RgC (size : Int) ((len : Int) + 1) (size : Int) (len / size) := by
  have e : Builtin.Range.rangeSize (size : Int) ((len : Int) + 1) (size : Int) = ((len / size : Nat) : Int) := by
    unfold Builtin.Range.rangeSize
    rw [if_pos (by omega)]
    by_cases h : size ≤ len
    · rw [if_pos (by omega), show (len : Int) + 1 - size - 1 = ((len - size : Nat) : Int) by omega, ← Int.natCast_ediv]
      have : len / size = (len - size) / size + 1 := by
        rw [Nat.div_eq_sub_div (by omega) h]
      omega
    · rw [if_neg (by omega), Nat.div_eq_of_lt (by omega)]
      rfl
  have hd := Nat.div_le_self len size
  refine ⟨by omega, by omega, ?_, e⟩
  unfold Builtin.Range.small
  rw [e]
  generalize len / size = n at hd
  simp only [Builtin.Range.rangeFitsLong, Bool.and_eq_true, Bool.or_eq_true, decide_eq_true_eq, beq_iff_eq]
  refine ⟨⟨⟨⟨?_, ?_⟩, ?_⟩, ?_⟩, .inr ?_⟩
  · omega
  · omega
  · omega
  · omega
  · split
    · simp only [Bool.and_eq_true, decide_eq_true_eq]
      omega
    · omega
section
variable {σ : St} {H : Hp} {t : TS} {f b' c' : St → Hp → Prop} {rt : VK}
theorem w_iRng3 {ta : TA} {R : It → Hp → Prop} (q : ta σ H fun vs H1 => ∃ (i j c : Int) (n : Nat), vs = [.int i, .int j, .int c] ∧ RgC i j c n ∧ R (Itc i c n) H1) : iRng3 ta σ H R := q
theorem l_range3 {size len k : Nat} (h1 : 1 ≤ size) (h2 : size ≤ 1000) (h3 : len ≤ 1000000) (Pv : Nat → St → Hp → Prop) (h0 : Pv 0 σ H)
    (hs : ∀ (i : Nat) σ' H', (i + 1) * size ≤ len → Pv i σ' H' → t ⟨Pv (i + 1), rt, f, Pv (i + 1)⟩ (σ'.set k (some (.int (((i + 1) * size : Nat) : Int)))) H') (hd : ∀ σ' H', Pv (len / size) σ' H' → f σ' H') :
    ∃ (i j c : Int) (n : Nat), [V.int (size : Int), V.int ((len : Int) + 1), V.int (size : Int)] = [.int i, .int j, .int c] ∧ RgC i j c n ∧ LoopOk (Itc i c n) (gName k) t ⟨f, rt, b', c'⟩ σ H := by
  refine ⟨_, _, _, _, rfl, RgC.mul h1 h2 h3, for_rangeC Pv h0 (fun i σ' H' hi hp => ?_) hd⟩
  have e : (size : Int) + (i : Int) * (size : Int) = (((i + 1) * size : Nat) : Int) := by
    rw [Nat.add_mul, Nat.one_mul]
    push_cast
    omega
  rw [e]
  exact hs i σ' H' ((Nat.le_div_iff_mul_le (by omega)).mp hi) hp
end
end L2

namespace L2
open PySem PySem.Spec PyProof.Rows
theorem k_lcount {X : Cx} {K : PySem.W.Frag} (h : X.K = K) : MtR X "list.count" (rCntI K) := h ▸ mt_lcount
end L2

namespace L2
open PySem PySem.Spec PyProof.Rows
/-! ### dict comprehensions with tuple keys (turned from the library's rule for keys that are ints or texts) -/
/-- d[k] = v by a comprehension -/
theorem d_dictSetT {X : Cx} {pins : List (Addr × Obj)} {σ : St} {H H' : Hp} {s : Shared} {E : Value → Shared → Prop} {D : Addr} {y v : V} {u r : Value} {Q : Unit → Shared → Prop} (hu : X.A.units < cLine) (I : Inv X pins σ H s) (g : DPut H D y v H')
    (ry : RelV y u) (rv : RelV v r) (h : ∀ s', Inv X pins σ H' s' → Q () s') : wpAny (model X.prog X.w) X.A (dictSet D u r) Q E s := by
  rcases g with ⟨kvs, k, e, ey, l, eH⟩ | ⟨kvs, k, b, e, ey, eb, l, eH⟩
  · subst ey eH
    exact d_dictSet I e l ry rv h
  · subst ey eH
    cases (show u = Value.ref b from ry)
    obtain ⟨z, hd, xs, rel, dd⟩ := dt_of I.hok e
    have hz : xs.length ≤ sizeLine := by rw [← Paired.length rel]; exact z
    have hl : (putK kvs k v).length ≤ sizeLine := by have := length_putK kvs k v; omega
    refine wpAny_dictSet_heap (hsz := hz) hu (key_of I.hok eb) dd fun h' dd' hs => h _ ?_
    obtain ⟨q, es, ep, hq, h2, h3, h4, _, h5⟩ := dd'
    refine d_write I (by rw [e]; exact True.intro) hs ⟨q, hq⟩ ⟨hl, hd, _, (rel.put k eb rv).keeps fun c ys ec => ?_, q, es, ep, hq, h2, h3, h4, h5⟩
    rw [upd_ne (ne_of ec e (fun z => nomatch z))]
    exact ec
section
variable {X : Cx}
/-- {k: v for target in iter if ..}, keys of any kind that DPut knows -/
def tDcT (wi : TI) (g : TG) (tt : TT) (tk tv : TE) (vs : List Nat) : TE := fun σ H Q => wi σ H fun J H1 => ∀ D, H1 D = none → ∃ W : Nat → Nat → Hp → Prop, (∃ m, W 0 m (upd H1 D (.dT []))) ∧ ∀ i m H, W i m H →
  (J.stop i H ∧ Q (.ref D) H) ∨ (J.go i H ∧ ∃ Nx : Hp → Prop, (∀ H', Nx H' → ∃ m', m' < m ∧ W (i + 1) m' H') ∧ ∀ x H', J.yld i H x H' → g x (wipe σ vs) H' fun σ2 H2 => wipe σ2 vs = wipe σ vs ∧ tt σ2 H2 fun b H3 =>
    if b = true then tk σ2 H3 fun y H4 => tv σ2 H4 fun z H5 => ∃ H6, DPut H5 D y z H6 ∧ Nx H6 else Nx H3)
theorem dcT_core {pins : List (Addr × Obj)} {s : Shared} {σ : St} {H : Hp} {Q : VK} {kx vx tg iter : Expr} {ifs : List Expr} {scope : Scope} {own : List (Str × Nat)} {pos pos' : Pos} {wi : TI} {g : TG} {tt : TT} {tk tv : TE} {use : Option (Value → Sem Unit)} {Qf : Value → Shared → Prop}
    (hu : X.A.units < cLine) (hc : X.calm = true) (hN : X.N.Nodup) (I : Inv X pins σ H s) (hi : PI X tg iter wi) (ok : BlkOk X.N X.env.scope scope own)
    (hg : ∀ (s : Shared) (H : Hp) (C : Addr) (cl : List (Str × Addr)) (fp : List Addr), PG (X.blk s H scope (compEnvC scope cl C X.env) fp) tg g) (ht : ∀ (s : Shared) (H : Hp) (C : Addr) (cl : List (Str × Addr)) (fp : List Addr), PTs (X.blk s H scope (compEnvC scope cl C X.env) fp) ifs tt)
    (hk : ∀ (s : Shared) (H : Hp) (C : Addr) (cl : List (Str × Addr)) (fp : List Addr), PE (X.blk s H scope (compEnvC scope cl C X.env) fp) kx tk)
    (he : ∀ (s : Shared) (H : Hp) (C : Addr) (cl : List (Str × Addr)) (fp : List Addr), PE (X.blk s H scope (compEnvC scope cl C X.env) fp) vx tv) (hs : ∀ x, foldedSetIterable iter X.env x = pure x)
    (h : tDcT wi g tt tk tv (own.map (·.2)) σ H Q)
    (hRR : ∀ D C s' m H', Inv X pins σ H' s' → Q (.ref D) H' → s'.heap.Ns C m → FpOk X pins H' C → compPost (model X.prog X.w) X.A X.xe use Qf (.ref D) C (.ok .next) s') :
    wpAny (model X.prog X.w) X.A (comprehension (.DictComp kx vx [⟨tg, iter, ifs, 0⟩] scope pos) scope X.env pos' newDict false (eval iter X.env) use) Qf X.xe s := by
  have hfree : ∀ y ∈ scope.names, y.2 = .free → ∃ c, X.env.cells.lookup y.1 = some c := fun y hy e => by
    rcases ok.free y hy e with k | k
    · exact I.ok.has _ (.inl k)
    · exact I.ok.has _ (.inr k)
  refine wpAny_comprehension_free (use := use) rfl hs (closure_ok hfree) ok.kind (fun y hy e => by rw [ok.uniq y hy, e])
    (thn (hi.run pins s σ H _ I h) fun xv s1 hx => thn hx fun itv s2 h2 => ?_)
  obtain ⟨it, fp, tn, J, H2, e, I2, T, st2, f2, q⟩ := h2
  subst e
  refine wpAny_newObj_type (newEnv_comp ?_)
  generalize hD : s2.heap.objs.size = D
  have hDn : H2 D = none := I2.hok.fresh (Nat.le_of_eq hD)
  obtain ⟨W, ⟨m0, w0⟩, turn⟩ := q D hDn
  -- the new list
  generalize hs3 : ({ s2 with heap := s2.heap.push { cls := .type "dict", data := .dict #[] } } : Shared) = s3
  have I3 : Inv X pins σ (upd H2 D (.dT [])) s3 := by
    rw [← hs3]
    refine I2.laid (t' := s2.toks) (fun b o e => Heap.get?_push_of_some _ e) (Nat.le_of_eq hD) ?_
    rw [← hD]
    exact dt_empty s2.heap I2.big
  have h3 : s3.heap = s2.heap.push { cls := .type "dict", data := .dict #[] } := by rw [← hs3]
  have sz : ∀ b ∈ fp, b < s2.heap.objs.size := fun b hb => by
    obtain ⟨o, e, _⟩ := T.obj _ _ st2 b hb
    exact Heap.lt_size e
  have f3 : ∀ b ∈ fp, FpOk X pins (upd H2 D (.dT [])) b ∧ b < s3.heap.objs.size := fun b hb => by
    have hlt := sz b hb
    refine ⟨⟨?_, (f2 b hb).2⟩, by rw [h3, Heap.size_push]; exact Nat.lt_succ_of_lt hlt⟩
    rw [upd_ne (by rw [← hD]; exact Nat.ne_of_lt hlt)]
    exact (f2 b hb).1
  have st3 : tn 0 s3.heap := T.keep _ _ _ st2 fun b _ o e => by rw [h3]; exact Heap.get?_push_of_some _ e
  have I4 := block_start I3 ok hN f3
  have pg := hg s3 (upd H2 D (.dT [])) s3.heap.objs.size (cellsFrom (s3.heap.objs.size + 1) scope.names (cloFrom X.env.cells scope.names [])) fp
  have pt := ht s3 (upd H2 D (.dT [])) s3.heap.objs.size (cellsFrom (s3.heap.objs.size + 1) scope.names (cloFrom X.env.cells scope.names [])) fp
  have pk := hk s3 (upd H2 D (.dT [])) s3.heap.objs.size (cellsFrom (s3.heap.objs.size + 1) scope.names (cloFrom X.env.cells scope.names [])) fp
  have pe := he s3 (upd H2 D (.dT [])) s3.heap.objs.size (cellsFrom (s3.heap.objs.size + 1) scope.names (cloFrom X.env.cells scope.names [])) fp
  show codeAny _ _ (.compStart (.DictComp kx vx [⟨tg, iter, ifs, 0⟩] scope pos) 0 (.ref it) (.ref D) (compEnvC scope (cellsFrom (s3.heap.objs.size + 1) scope.names (cloFrom X.env.cells scope.names [])) s3.heap.objs.size X.env)) (compPost (model X.prog X.w) X.A X.xe use Qf (.ref D) s3.heap.objs.size) { s3 with heap := pushCells (s3.heap.push { cls := .type "dict", data := .dict #[] }) scope.names }
  have nfp : ∀ b ∈ fp, (upd H2 D (.dT [])) b = none := fun b hb => (f3 b hb).1.1
  generalize hce : compEnvC scope (cellsFrom (s3.heap.objs.size + 1) scope.names (cloFrom X.env.cells scope.names [])) s3.heap.objs.size X.env = ce at I4 pg pt pk pe ⊢
  have cL : ce.locals = s3.heap.objs.size := by subst hce; rfl
  generalize hH3 : upd H2 D (.dT []) = H3 at I3 I4 pg pt pk pe w0 nfp f3
  generalize hs4 : ({ s3 with heap := pushCells (s3.heap.push { cls := .type "dict", data := .dict #[] }) scope.names } : Shared) = s4 at I4 ⊢
  have st4 : tn 0 s4.heap := T.keep _ _ _ st3 fun b _ o e => by rw [← hs4]; exact pushCells_keeps _ _ _ _ (Heap.get?_push_of_some _ e)
  have stat : ∀ {σ' : St} {H' : Hp} {s' : Shared}, Inv (X.blk s3 H3 scope ce fp) [] σ' H' s' → (∀ b ∈ fp, H' b = none) → ∀ b ∈ fp, FpOk (X.blk s3 H3 scope ce fp) [] H' b := fun {σ' H' s'} I' hn b hb =>
    ⟨hn b hb, (I'.ok.exf b hb).1, I'.ok.exfs b hb, .inl hb, fun x c e => (I'.ok.exf b hb).2 x c e, fun p hp => absurd (show p ∈ ([] : List (Addr × Obj)) ++ [] from hp) (by simp)⟩
  have loop : codeAny (model X.prog X.w) X.A (.compLoop (.DictComp kx vx [⟨tg, iter, ifs, 0⟩] scope pos) 0 (.ref it) (.ref D) ce) (compPost (model X.prog X.w) X.A X.xe use Qf (.ref D) s3.heap.objs.size) s4 := by
    refine compLoop_anyD (fun n s' => ∃ i H', Inv (X.blk s3 H3 scope ce fp) [] (wipe σ (own.map (·.2))) H' s' ∧ tn i s'.heap ∧ (∀ b ∈ fp, H' b = none) ∧ W i n H') ?_ m0 ⟨0, H3, I4, st4, nfp, w0⟩
    rintro n s5 ⟨i, H5, I5, st5, n5, w5⟩
    rcases turn i n H5 w5 with ⟨stop, qq⟩ | ⟨go, Nx, hNx, step⟩
    · have td := T.done (X.blk s3 H3 scope ce fp) rfl rfl rfl hc i [] s5 _ H5 (fun _ _ => False) I5 (stat I5 n5) st5 stop
      refine thnF td fun r s6 ⟨hr, I6⟩ => ?_
      subst hr
      -- back in the def's context
      have I7 : Inv X pins σ H5 s6 := I3.call' (ch := fp) I6.os I6.base I6.hok I6.bare fun b hb => ⟨(f3 b hb).1.2.2.2.1, (f3 b hb).1.2.1, (f3 b hb).1.2.2.2.2.1, (f3 b hb).1.2.2.2.2.2⟩
      have nC : H5 s3.heap.objs.size = none := by
        have z : H5 ce.locals = none := I6.free
        rw [cL] at z
        exact z
      obtain ⟨m, hn, _⟩ := I6.loc
      have hn : s6.heap.Ns ce.locals m := hn
      rw [cL] at hn
      exact hRR D s3.heap.objs.size s6 m H5 I7 qq hn (I3.fpOk (Nat.le_refl _) nC)
    · have ti := T.item (X.blk s3 H3 scope ce fp) rfl rfl rfl hc i [] s5 _ H5 (fun _ _ => False) I5 (stat I5 n5) st5 go
      refine thnF ti fun r s6 ⟨u, hr, h6⟩ => ?_
      subst hr
      refine thnF h6 fun _ s7 ⟨x, H7, I7, r7, y7, st7, n7⟩ => ?_
      have I7' := I7.pinned (stat I7 n7) (T.obj _ _ st7)
      refine thnF (pg.run _ s7 _ H7 x u _ I7' r7 (step x H7 y7)) fun _ s8 ⟨σ8, H8, I8, hw8, q8⟩ => ?_
      refine thnF (pt.run _ s8 σ8 H8 _ I8 q8) fun b s9 ⟨H9, I9, q9⟩ => ?_
      -- the turn's end
      have fin : ∀ {s' : Shared} {H' : Hp}, Inv (X.blk s3 H3 scope ce fp) ([] ++ pinsAt fp s7.heap) σ8 H' s' → Nx H' → ∃ m, m < n ∧ ∃ i H', Inv (X.blk s3 H3 scope ce fp) [] (wipe σ (own.map (·.2))) H' s' ∧ tn i s'.heap ∧ (∀ b ∈ fp, H' b = none) ∧ W i m H' := fun {s' H'} I' nx => by
        obtain ⟨m', hm, w'⟩ := hNx H' nx
        have pin' : ∀ b ∈ fp, ∀ o, s7.heap.get? b = some o → s'.heap.get? b = some o ∧ H' b = none := fun b hb o e =>
          let z := I'.pin (b, o) (List.mem_append_right _ (List.mem_append_right _ (mem_pinsAt hb e)))
          ⟨z.1, z.2.1⟩
        have hl : (wipe σ (own.map (·.2))).length = σ8.length := by rw [← hw8, wipe_length]
        refine ⟨m', hm, i + 1, H', (I'.unpinned (pins := [])).weak hl (fun j v e => ?_), T.keep _ _ _ st7 fun b hb o e => (pin' b hb o e).1, fun b hb => ?_, w'⟩
        · rw [← hw8] at e
          exact (wipe_some e).1
        · obtain ⟨o, e, _⟩ := T.obj _ _ st7 b hb
          exact (pin' b hb o e).2
      cases b with
      | false =>
        simp only [Bool.false_eq_true, if_false] at q9 ⊢
        exact fin I9 q9
      | true =>
        simp only [if_true] at q9 ⊢
        refine thnF (pk.run _ s9 σ8 H9 _ I9 q9) fun z s10 ⟨yk, H10, I10, r10, q10⟩ => ?_
        refine thnF (pe.run _ s10 σ8 H10 _ I10 q10) fun z2 s11 ⟨yv, H11, I11, r11, H12, g12, nx⟩ => ?_
        exact d_dictSetT (X := X.blk s3 H3 scope ce fp) hu I11 g12 r10 r11 fun s12 I12 => fin I12 nx
  exact codeAny_compStart_dict loop (T.self X.A 0 _ _ _ st4 loop)
/-- as a value -/
theorem pe_dcT {kx vx tg iter : Expr} {ifs : List Expr} {scope : Scope} {own : List (Str × Nat)} {pos : Pos} {wi : TI} {g : TG} {tt : TT} {tk tv : TE} (hu : X.A.units < cLine) (hc : X.calm = true) (hN : X.N.Nodup) (hi : PI X tg iter wi) (ok : BlkOk X.N X.env.scope scope own)
    (hg : ∀ (s : Shared) (H : Hp) (C : Addr) (cl : List (Str × Addr)) (fp : List Addr), PG (X.blk s H scope (compEnvC scope cl C X.env) fp) tg g) (ht : ∀ (s : Shared) (H : Hp) (C : Addr) (cl : List (Str × Addr)) (fp : List Addr), PTs (X.blk s H scope (compEnvC scope cl C X.env) fp) ifs tt)
    (hk : ∀ (s : Shared) (H : Hp) (C : Addr) (cl : List (Str × Addr)) (fp : List Addr), PE (X.blk s H scope (compEnvC scope cl C X.env) fp) kx tk)
    (he : ∀ (s : Shared) (H : Hp) (C : Addr) (cl : List (Str × Addr)) (fp : List Addr), PE (X.blk s H scope (compEnvC scope cl C X.env) fp) vx tv) (hs : ∀ x, foldedSetIterable iter X.env x = pure x := by intro _; rfl) :
    PE X (.DictComp kx vx [⟨tg, iter, ifs, 0⟩] scope pos) (tDcT wi g tt tk tv (own.map (·.2))) := by
  refine ⟨fun pins s σ H Q I h => ?_⟩
  rw [arm_eval_DictComp]
  refine dcT_core hu hc hN I hi ok hg ht hk he hs h fun D C s' m H' I' q hn f => ⟨m, hn, fun h'' sb => ?_⟩
  obtain ⟨f0, f1, f2, f3, f4, f5⟩ := f
  exact ⟨.ref D, H', I'.turned (t' := s'.toks) (fun b o hb e => (sb.2 b hb).trans e) f0 f1 f3 f4 f5, rfl, q⟩
end
section
variable {K : PySem.W.Frag} {σ : St} {H : Hp} {tk tv : TE} {g : TG} {vs : List Nat} {Q : VK}
/-- what a dict comprehension asks of its walk J -/
def DcOk (J : It) (g : TG) (tt : TT) (tk tv : TE) (vs : List Nat) (σ : St) (H1 : Hp) (Q : VK) : Prop := ∀ D, H1 D = none → ∃ W : Nat → Nat → Hp → Prop, (∃ m, W 0 m (upd H1 D (.dT []))) ∧ ∀ i m H, W i m H →
  (J.stop i H ∧ Q (.ref D) H) ∨ (J.go i H ∧ ∃ Nx : Hp → Prop, (∀ H', Nx H' → ∃ m', m' < m ∧ W (i + 1) m' H') ∧ ∀ x H', J.yld i H x H' → g x (wipe σ vs) H' fun σ2 H2 => wipe σ2 vs = wipe σ vs ∧ tt σ2 H2 fun b H3 =>
    if b = true then tk σ2 H3 fun y H4 => tv σ2 H4 fun z H5 => ∃ H6, DPut H5 D y z H6 ∧ Nx H6 else Nx H3)
theorem w_dc {wi : TI} {tt : TT} (q : wi σ H fun J H1 => DcOk J g tt tk tv vs σ H1 Q) : tDcT wi g tt tk tv vs σ H Q := q
theorem l_dcG {J : It} {n : Nat} {G : Hp → Prop} {Y : Nat → Hp → V → Hp → Prop} (w : Walk J n G Y) (hz : n < sizeLine) (Pv : Nat → List (List Key × V) → Prop) (h0 : Pv 0 []) (hG : ∀ H', Same H H' → G H') (hY : ∀ i x H1 H2, i < n → Y i H1 x H2 → Same H1 H2)
    (hs : ∀ i x H1 H2 D kvs (N : V → V → Hp → Prop), i < n → Same H H1 → H D = none → H1 D = some (.dT kvs) → Pv i kvs → Y i H1 x H2 → (∀ p k z H5, Same H2 H5 → H5 p = some (.tup (k.map kV)) → Pv (i + 1) (putK kvs k z) → N (.ref p) z H5) →
      g x (wipe σ vs) H2 fun σ2 H3 => wipe σ2 vs = wipe σ vs ∧ tk σ2 H3 fun y H4 => tv σ2 H4 fun z H5 => N y z H5)
    (k : ∀ D H' kvs, H D = none → Same H H' → H' D = some (.dT kvs) → kvs.length ≤ n → Pv n kvs → Q (.ref D) H') : DcOk J g tYes tk tv vs σ H Q := by
  intro D hD
  refine ⟨fun i m H' => m = n - i ∧ i ≤ n ∧ ∃ kvs, H' D = some (.dT kvs) ∧ kvs.length ≤ i ∧ Same H H' ∧ Pv i kvs, ⟨n, by simp, Nat.zero_le _, [], upd_same, Nat.le_refl _, Same.new hD, h0⟩, ?_⟩
  rintro i m H1 ⟨rfl, hi, kvs, e, hl, sm, hp⟩
  have q := hG H1 sm
  by_cases hlt : i < n
  · refine .inr ⟨w.goes i H1 hlt q, fun H' => ∃ kvs, H' D = some (.dT kvs) ∧ kvs.length ≤ i + 1 ∧ Same H H' ∧ Pv (i + 1) kvs, fun H' p' => ⟨n - (i + 1), by omega, rfl, hlt, p'⟩, fun x H2 y => ?_⟩
    have hy := w.yields i H1 x H2 hlt q y
    have s12 := hY i x H1 H2 hlt hy
    exact hs i x H1 H2 D kvs (fun y z H5 => ∃ H6, DPut H5 D y z H6 ∧ ∃ kvs, H6 D = some (.dT kvs) ∧ kvs.length ≤ i + 1 ∧ Same H H6 ∧ Pv (i + 1) kvs) hlt sm hD e hp hy fun p k z H5 s25 ep hpv =>
      ⟨_, DPut.t (s25 _ _ (s12 _ _ e)) ep (by omega), putK kvs k z, upd_same, by have := length_putK kvs k z; omega, Same.mut ((sm.trans s12).trans s25) hD, hpv⟩
  · have e2 : i = n := by omega
    subst e2
    exact .inl ⟨w.stops H1 q, k D H1 kvs hD sm e hl hp⟩
/-- over a list or a tuple -/
theorem l_dcS {b : Bool} {a : Addr} {j : Nat} (xs : List V) (hx : Sq b K H a xs) (hz : xs.length < sizeLine) (Pv : Nat → List (List Key × V) → Prop) (h0 : Pv 0 []) (hw : ∀ x : V, wipe ((wipe σ vs).set j (some x)) vs = wipe σ vs)
    (hs : ∀ (i : Nat) x H1 D kvs (N : V → V → Hp → Prop), i < xs.length → xs[i]? = some x → Same H H1 → H D = none → H1 D = some (.dT kvs) → Pv i kvs → (∀ p k z H5, Same H1 H5 → H5 p = some (.tup (k.map kV)) → Pv (i + 1) (putK kvs k z) → N (.ref p) z H5) →
      tk ((wipe σ vs).set j (some x)) H1 fun y H4 => tv ((wipe σ vs).set j (some x)) H4 fun z H5 => N y z H5)
    (k : ∀ D H' kvs, H D = none → Same H H' → H' D = some (.dT kvs) → kvs.length ≤ xs.length → Pv xs.length kvs → Q (.ref D) H') :
    ∃ a', V.ref a = .ref a' ∧ ((∃ xs, SqL K H a' xs) ∧ DcOk (Itl K a') (gName j) tYes tk tv vs σ H Q ∨ (∃ xs, SqT K H a' xs) ∧ DcOk (Itt K a') (gName j) tYes tk tv vs σ H Q) := by
  refine ⟨a, rfl, ?_⟩
  cases b with
  | true =>
    refine .inl ⟨⟨xs, hx⟩, l_dcG (walk_list (xs := xs)) hz Pv h0 (fun H' sm => sm.sq (b := true) hx) (fun i x H1 H2 _ hy => by obtain ⟨e, _⟩ := hy; subst e; exact Same.refl _) (fun i x H1 H2 D kvs N hi sm hD e hp hy hN => ?_) k⟩
    obtain ⟨e1, ex⟩ := hy
    subst e1
    exact ⟨hw _, hs i x _ D kvs N hi ex sm hD e hp hN⟩
  | false =>
    refine .inr ⟨⟨xs, hx⟩, l_dcG (walk_tup (xs := xs)) hz Pv h0 (fun H' sm => sm.sq (b := false) hx) (fun i x H1 H2 _ hy => by obtain ⟨e, _⟩ := hy; subst e; exact Same.refl _) (fun i x H1 H2 D kvs N hi sm hD e hp hy hN => ?_) k⟩
    obtain ⟨e1, ex⟩ := hy
    subst e1
    exact ⟨hw _, hs i x _ D kvs N hi ex sm hD e hp hN⟩
end
end L2

namespace My
open PySem PySem.Spec PyProof.Rows L2
/-! ### sums of the first ones -/
def pre (ns : List Int) (j : Nat) : Int := (ns.take j).sum
theorem pre_zero (ns : List Int) : pre ns 0 = 0 := by simp [pre]
theorem pre_all (ns : List Int) : pre ns ns.length = ns.sum := by simp [pre]
theorem pre_succ {ns : List Int} {j : Nat} (h : j < ns.length) : pre ns (j + 1) = pre ns j + nth ns (j : Nat) := by
  have e : ns[j]? = some (nth ns (j : Nat)) := by
    rw [nth_nat, List.getD_eq_getElem?_getD, List.getElem?_eq_getElem h]
    rfl
  exact sum_take e
theorem pre_le {ns : List Int} (hn : ∀ x ∈ ns, (0 : Int) ≤ x) {i j : Nat} (h : i ≤ j) (hj : j ≤ ns.length) : pre ns i ≤ pre ns j := by
  induction j with
  | zero =>
    have : i = 0 := by omega
    subst this
    exact Int.le_refl _
  | succ j ih =>
    by_cases e : i = j + 1
    · subst e; exact Int.le_refl _
    · have h1 := ih (by omega) (by omega)
      have h2 := pre_succ (ns := ns) (j := j) (by omega)
      have h3 := hn _ (nth_mem (ns := ns) (i := (j : Nat)) (by omega) (by omega))
      omega

/-! ### one step of a reading; the closers -/
local macro_rules | `(tactic| walk_at "same") => `(tactic| first
  | assumption
  | exact Same.refl _
  | (refine Same.trans ?_ (Same.new (by assumption)); walk_at "same")
  | (refine Same.mut ?_ (by assumption); walk_at "same")
  | (refine Same.trans (H1 := _) ?_ (by assumption); walk_at "same"))
local macro_rules | `(tactic| walk_at "at") => `(tactic| first
  | assumption
  | exact upd_same
  | (refine Same.at ?_ (by assumption); walk_at "same"))
local macro_rules | `(tactic| walk_at "sq") => `(tactic| first
  | assumption
  | exact Sq.lst (by walk_at "at")
  | exact Sq.tup (by walk_at "at")
  | (refine Same.sq ?_ (by assumption); walk_at "same"))
local macro_rules | `(tactic| walk_at "lk") => `(tactic| first
  | exact lk_here
  | (refine lk_next (by decide +kernel) ?_; walk_at "lk")
  | exact rfl)
local macro_rules | `(tactic| walk_at "pf") => `(tactic| first
  | exact pf_here
  | (apply pf_next (by decide +kernel); walk_at "pf")
  | exact pf_nil)
local macro_rules | `(tactic| walk_at "num") => `(tactic| first
  | omega
  | assumption
  | (unfold CMul; omega)
  | (unfold CDiv; omega)
  | (unfold CPow; refine ⟨?_, ?_, ?_⟩ <;> first | omega | decide)
  | decide
  | (simp only [List.length_append, List.length_cons, List.length_nil, List.length_map, List.length_range] at *; omega))
local macro_rules | `(tactic| walk_at "vv") => `(tactic| first
  | exact tape_cells
  | exact tape_at
  | exact tape_great
  | exact tape_left
  | exact tape_seed
  | exact tape_turn
  | exact val_pos
  | (refine (val_neg (by decide +kernel)).trans ?_; walk_at "vv"))
local macro_rules | `(tactic| walk_at "pp") => `(tactic| first
  | exact tape_setAt
  | exact tape_setGreat
  | exact tape_setLeft
  | exact tape_setSeed
  | exact tape_setTurn)
local macro_rules | `(tactic| walk_at "dl") => `(tactic| first
  | exact tape_len
  | (show _ < 1000; simp only [List.length_cons, List.length_nil]; omega))
local macro_rules | `(tactic| walk_at "go1") => `(tactic| first
  | with_reducible refine w_var rfl ?_
  | with_reducible refine w_seq ?_
  | with_reducible refine w_asg ?_
  | with_reducible refine w_gName ?_
  | with_reducible refine w_c ?_
  | with_reducible refine w_op ?_
  | with_reducible refine w_I0 ?_
  | with_reducible refine w_addI ?_
  | with_reducible refine w_cb ?_
  | with_reducible refine w_aCons ?_
  | with_reducible refine w_aNil ?_
  | with_reducible refine w_int1 ?_
  | with_reducible refine w_int1b ?_
  | ((with_reducible refine w_I ?_ ?_); (· walk_at "num"))
  | with_reducible refine w_test ?_
  | with_reducible refine w_exb ?_
  | with_reducible refine w_exi ?_
  | with_reducible refine w_ifS ?_
  | with_reducible refine w_tru ?_
  | with_reducible refine w_truB ?_
  | with_reducible refine w_eqI ?_
  | with_reducible refine w_neI ?_
  | with_reducible refine iteT ?_
  | with_reducible refine iteF ?_
  | with_reducible refine w_not ?_
  | with_reducible refine w_and ?_
  | with_reducible refine w_or ?_
  | with_reducible refine w_iteNT ?_
  | with_reducible refine w_iteNF ?_
  | with_reducible refine w_ret ?_
  | with_reducible refine w_retN ?_
  | with_reducible refine w_next ?_
  | with_reducible refine w_drop ?_
  | with_reducible refine w_augI rfl ?_
  | with_reducible refine w_ipI ?_
  | with_reducible refine w_un ?_
  | with_reducible refine w_rU ?_
  | with_reducible refine w_abs ?_
  | with_reducible refine w_max2 ?_
  | with_reducible refine w_min2 ?_
  | with_reducible refine w_call ?_
  | with_reducible refine w_tB ?_
  | with_reducible refine w_bm ?_
  | ((with_reducible show tyV _ "list" (V.ref _) _ ∧ _); refine w_tyL (by walk_at "sq") ?_)
  | ((with_reducible show rIx _ (V.ref _) (V.int _) _ _); refine w_ixI (by walk_at "sq") (by walk_at "num") (by walk_at "num") ?_)
  | ((with_reducible show rSumS _ [V.ref _] _ _); refine w_sumI (by walk_at "sq") ?_)
  | ((with_reducible show rLenS _ [V.ref _] _ _); refine w_lenI (by walk_at "sq") ?_)
  | ((with_reducible show rLenS _ [V.ref _] _ _); refine w_lenS (by walk_at "sq") ?_)
  | with_reducible refine w_isNn ?_
  | with_reducible refine w_isNi ?_
  | with_reducible refine w_isNb ?_
  | with_reducible refine w_isNs ?_
  | with_reducible refine w_isNr ?_
  | with_reducible refine w_notNn ?_
  | with_reducible refine w_notNi ?_
  | with_reducible refine w_notNb ?_
  | with_reducible refine w_notNs ?_
  | with_reducible refine w_notNr ?_
  | with_reducible refine w_lstD ?_
  | with_reducible refine w_tupD ?_
  | with_reducible refine w_sl ?_
  | with_reducible refine w_noPart ?_
  | with_reducible refine w_part ?_
  | with_reducible refine w_for ?_
  | with_reducible refine w_iRng1 ?_
  | with_reducible refine w_iRng2 ?_
  | with_reducible refine w_iSeq ?_
  | with_reducible refine w_iEnumS ?_
  | with_reducible refine w_andV ?_
  | with_reducible refine w_orV ?_
  | with_reducible refine w_notV ?_
  | with_reducible refine w_ifE ?_
  | with_reducible refine w_brk ?_
  | with_reducible refine w_cont ?_
  | with_reducible refine w_gSub ?_
  | with_reducible refine w_lc ?_
  | with_reducible refine w_iZipS ?_
  | with_reducible refine w_fld ?_
  | ((with_reducible show ∃ a C dx fs v, V.ref _ = V.ref a ∧ _ ∧ Cls _ _ ∧ NoAttr _ _ _ ∧ _ ∧ _); refine w_fldAt (by walk_at "at") (by assumption) (by assumption) (by walk_at "lk") ?_)
  | with_reducible refine w_sfld ?_
  | ((with_reducible show ∃ a C dx fs, V.ref _ = V.ref a ∧ _ ∧ Cls _ _ ∧ NoAttr _ _ _ ∧ _ ∧ _); refine w_sfldAt (by walk_at "at") (by assumption) (by assumption) (by show _ < 1000; simp only [List.length_cons, List.length_nil]; omega) (by walk_at "pf") ?_)
  | with_reducible refine w_meth ?_
  | ((with_reducible show ∃ a dx fs, V.ref _ = V.ref a ∧ _ ∧ _ ∧ _); refine w_methAt (by walk_at "at") (by walk_at "lk") ?_)
  | with_reducible refine w_make ?_
  | with_reducible refine w_chain ?_
  | with_reducible refine w_dget ?_
  | ((with_reducible show ∃ a v, V.ref _ = V.ref a ∧ DGet _ a (V.str _) (some v) ∧ _); refine w_dgetAt (by walk_at "at") (by walk_at "vv") ?_)
  | ((with_reducible show ∃ a H4, V.ref _ = V.ref a ∧ DPut _ a (V.str _) _ H4 ∧ _); refine w_dputAt (by walk_at "at") (by walk_at "dl") (by walk_at "pp") ?_)
  | with_reducible refine w_dput ?_
  | with_reducible refine w_disp ?_
  | with_reducible refine w_prop ?_
  | ((with_reducible show ∃ a dx fs, V.ref _ = V.ref a ∧ _ ∧ _); refine w_propAt (by walk_at "at") ?_)
  | with_reducible refine w_lstRg ?_
  | with_reducible refine w_tupRg ?_
  | with_reducible refine w_rg1 ?_
  | with_reducible refine w_rg2 ?_
  | with_reducible refine w_augS ?_
  | ((with_reducible show rGetL (V.ref _) (V.int _) _ _); refine w_getI (by walk_at "at") (by walk_at "num") (by walk_at "num") ?_)
  | with_reducible refine w_pair0 ?_
  | with_reducible refine w_pair1 ?_
  | ((with_reducible show Ends.rt _ _ _); with_reducible refine w_rt ?_)
  | ((with_reducible show Ends.bk _ _ _); with_reducible refine w_bk ?_)
  | ((with_reducible show Ends.ct _ _ _); with_reducible refine w_ct ?_)
  | ((with_reducible show Ends.nx _ _ _); with_reducible refine w_nx ?_))
local macro_rules | `(tactic| walk_at "go") => `(tactic| repeat walk_at "go1")
/-! new objects named by themselves -/
local macro_rules | `(tactic| walk_at "same2") => `(tactic| first
  | with_reducible assumption
  | exact Same.refl _
  | (refine Same.trans (H1 := _) ?_ (by with_reducible assumption); walk_at "same2"))
local macro_rules | `(tactic| walk_at "at2") => `(tactic| first
  | with_reducible assumption
  | (refine Same.at ?_ (by with_reducible assumption); walk_at "same2"))
local macro_rules | `(tactic| walk_at "sq2") => `(tactic| first
  | with_reducible assumption
  | exact Sq.lst (by walk_at "at2")
  | exact Sq.tup (by walk_at "at2")
  | (refine Same.sq ?_ (by with_reducible assumption); walk_at "same2"))
local macro_rules | `(tactic| walk_at "ati") => `(tactic| first
  | exact atI_nat (j := 0) rfl
  | exact atI_nat (j := 1) rfl
  | exact atI_nat (j := 2) rfl
  | exact atI_nat (j := 3) rfl
  | exact atI_nat (j := 4) rfl)
local macro_rules | `(tactic| walk_at "nw1") => `(tactic| first
  | with_reducible refine w_tupN ?_
  | with_reducible refine w_lstN ?_
  | ((with_reducible show NewO _ _ _ _); refine w_new (by first | exact Nat.zero_le _ | (simp only [List.length_cons, List.length_nil]; omega)) ?_; intro p H' hp s e)
  | with_reducible refine w_methT ?_
  | with_reducible refine w_makeT ?_
  | with_reducible refine w_callS ?_
  | ((with_reducible show rIx _ (V.ref _) (V.int _) _ _); refine w_ixI (by walk_at "sq2") (by walk_at "num") (by walk_at "num") ?_)
  | ((with_reducible show rIx _ (V.ref _) (V.int _) _ _); refine w_ix (by walk_at "sq2") (by walk_at "ati") ?_)
  | ((with_reducible show rListS _ [V.ref _] _ _); refine w_listN (by walk_at "sq2") ?_; intro p H' hp s e)
  | ((with_reducible show rTupS _ [V.ref _] _ _); refine w_tupNL (by walk_at "sq2") ?_; intro p H' hp s e)
  | ((with_reducible show rTupS _ [V.ref _] _ _); refine w_tupT (by walk_at "sq2") ?_)
  | with_reducible refine w_neBB ?_
  | with_reducible refine w_neSS ?_
  | with_reducible refine w_eqSS ?_
  | ((with_reducible show rEqG _ (V.str _) (V.str _) _ _); refine w_eqSD (by decide +kernel) ?_)
  | ((with_reducible show rNeG _ (V.str _) (V.str _) _ _); refine w_neSD (by decide +kernel) ?_)
  | with_reducible refine w_augF ?_
  | ((with_reducible show ∃ a C dx fs v, V.ref _ = V.ref a ∧ _ ∧ Cls _ _ ∧ NoAttr _ _ _ ∧ _ ∧ _); refine w_augFAt (by walk_at "at") (by assumption) (by assumption) (by walk_at "lk") ?_)
  | with_reducible refine w_rAdd ?_
  | ((with_reducible show ∃ dx' fs', _ ∧ List.length fs' < 1000 ∧ _); refine w_augFEnd (by walk_at "at") (by show _ < 1000; simp only [List.length_cons, List.length_nil]; omega) (by walk_at "pf") ?_)
  | walk_at "go1")
local macro_rules | `(tactic| walk_at "GO") => `(tactic| repeat walk_at "nw1")

def topS (i : Nat) : Stmt := PySem.Challenge.pw_servedalone_k22_used_longest_ago.main.body.getD i (.Pass ⟨0, 0, 0, 0⟩)
abbrev s_u_wall : Stmt := topS 0
abbrev s_Tree___init__ : Stmt := inClass (topS 2) 0
abbrev s_Tree_beginnings : Stmt := inClass (topS 2) 1
abbrev s_Tree_use : Stmt := inClass (topS 2) 2
abbrev s_Tree_known : Stmt := inClass (topS 2) 3
abbrev s_Tree_known_length : Stmt := inClass (topS 2) 4
abbrev s_Tree_block_under : Stmt := inClass (topS 2) 5
abbrev s_Tree_put : Stmt := inClass (topS 2) 6
abbrev s_Tree_ends_of : Stmt := inClass (topS 2) 7
abbrev s_Tree_oldest_of : Stmt := inClass (topS 2) 8
abbrev s_Tree_drop_order : Stmt := inClass (topS 2) 9
abbrev s_Tree_drop : Stmt := inClass (topS 2) 10
abbrev s_Tree___len__ : Stmt := inClass (topS 2) 11
abbrev s_Tree___iter__ : Stmt := inClass (topS 2) 12
abbrev s_InvalidNumber___init__ : Stmt := inClass (topS 5) 0
abbrev s_NoRoom___init__ : Stmt := inClass (topS 6) 0
abbrev s_NotHeld___init__ : Stmt := inClass (topS 7) 0
abbrev s_NotAlone___init__ : Stmt := inClass (topS 8) 0
abbrev s_is_between : Stmt := topS 10
abbrev s_Store___init__ : Stmt := inClass (topS 14) 0
abbrev s_Store_free : Stmt := inClass (topS 14) 1
abbrev s_Store_check_held : Stmt := inClass (topS 14) 2
abbrev s_Store_check_alone : Stmt := inClass (topS 14) 3
abbrev s_Store_take : Stmt := inClass (topS 14) 4
abbrev s_Store_hold : Stmt := inClass (topS 14) 5
abbrev s_Store_release : Stmt := inClass (topS 14) 6
abbrev s_Store_put_row : Stmt := inClass (topS 14) 7
abbrev s_Store_shorten : Stmt := inClass (topS 14) 8
abbrev s_Store_rows : Stmt := inClass (topS 14) 9
abbrev s_Store_holders : Stmt := inClass (topS 14) 10
abbrev s_L_pool : Stmt := topS 16
abbrev s_L_draw : Stmt := topS 17
abbrev s_L_same : Stmt := topS 18
abbrev s_L_new : Stmt := topS 19
abbrev s_L_path : Stmt := topS 20
abbrev s_L_letters : Stmt := topS 21
abbrev s_L_row : Stmt := topS 22
abbrev s_L_uses : Stmt := topS 23
abbrev s_L_known : Stmt := topS 24
abbrev s_L_release : Stmt := topS 25
abbrev s_L_dropped : Stmt := topS 26
abbrev s_L_as : Stmt := topS 27
abbrev s_L_filled : Stmt := topS 28
abbrev s_L_shown : Stmt := topS 29
abbrev s_L_put : Stmt := topS 30
abbrev s_law : Stmt := topS 31
theorem sc_u_wall : FnScope ["k"] ["k"] (defScope s_u_wall) := ⟨rfl, rfl, rfl, by decide +kernel, rfl, by decide +kernel, by decide +kernel⟩
theorem sc_Tree___init__ : FnScope ["self", "store"] ["self", "store"] (defScope s_Tree___init__) := ⟨rfl, rfl, rfl, by decide +kernel, rfl, by decide +kernel, by decide +kernel⟩
theorem sc_Tree_beginnings : FnScope ["self", "letters", "found", "length"] ["self", "letters"] (defScope s_Tree_beginnings) := ⟨rfl, rfl, rfl, by decide +kernel, rfl, by decide +kernel, by decide +kernel⟩
theorem sc_Tree_use : FnScope ["self", "paths", "path"] ["self", "paths"] (defScope s_Tree_use) := ⟨rfl, rfl, rfl, by decide +kernel, rfl, by decide +kernel, by decide +kernel⟩
theorem sc_Tree_known : FnScope ["self", "letters", "paths", "path"] ["self", "letters"] (defScope s_Tree_known) := ⟨rfl, rfl, rfl, by decide +kernel, rfl, by decide +kernel, by decide +kernel⟩
theorem sc_Tree_known_length : FnScope ["self", "letters"] ["self", "letters"] (defScope s_Tree_known_length) := ⟨rfl, rfl, rfl, by decide +kernel, rfl, by decide +kernel, by decide +kernel⟩
theorem sc_Tree_block_under : FnScope ["self", "path"] ["self", "path"] (defScope s_Tree_block_under) := ⟨rfl, rfl, rfl, by decide +kernel, rfl, by decide +kernel, by decide +kernel⟩
theorem sc_Tree_put : FnScope ["self", "path", "block", "ahead"] ["self", "path", "block"] (defScope s_Tree_put) := ⟨rfl, rfl, rfl, by decide +kernel, rfl, by decide +kernel, by decide +kernel⟩
theorem sc_Tree_ends_of : FnScope ["self", "paths", "ahead", "path"] ["self", "paths"] (defScope s_Tree_ends_of) := ⟨rfl, rfl, rfl, by decide +kernel, rfl, by decide +kernel, by decide +kernel⟩
theorem sc_Tree_oldest_of : FnScope ["self", "paths", "oldest", "path"] ["self", "paths"] (defScope s_Tree_oldest_of) := ⟨rfl, rfl, rfl, by decide +kernel, rfl, by decide +kernel, by decide +kernel⟩
theorem sc_Tree_drop_order : FnScope ["self"] ["self"] (defScope s_Tree_drop_order) := ⟨rfl, rfl, rfl, by decide +kernel, rfl, by decide +kernel, by decide +kernel⟩
theorem sc_Tree_drop : FnScope ["self", "paths", "oldest", "path"] ["self"] (defScope s_Tree_drop) := ⟨rfl, rfl, rfl, by decide +kernel, rfl, by decide +kernel, by decide +kernel⟩
theorem sc_Tree___len__ : FnScope ["self"] ["self"] (defScope s_Tree___len__) := ⟨rfl, rfl, rfl, by decide +kernel, rfl, by decide +kernel, by decide +kernel⟩
theorem sc_Tree___iter__ : FnScope ["self"] ["self"] (defScope s_Tree___iter__) := ⟨rfl, rfl, rfl, by decide +kernel, rfl, by decide +kernel, by decide +kernel⟩
theorem sc_InvalidNumber___init__ : FnScope ["self", "number"] ["self", "number"] (defScope s_InvalidNumber___init__) := ⟨rfl, rfl, rfl, by decide +kernel, rfl, by decide +kernel, by decide +kernel⟩
theorem sc_NoRoom___init__ : FnScope ["self", "many"] ["self", "many"] (defScope s_NoRoom___init__) := ⟨rfl, rfl, rfl, by decide +kernel, rfl, by decide +kernel, by decide +kernel⟩
theorem sc_NotHeld___init__ : FnScope ["self", "block"] ["self", "block"] (defScope s_NotHeld___init__) := ⟨rfl, rfl, rfl, by decide +kernel, rfl, by decide +kernel, by decide +kernel⟩
theorem sc_NotAlone___init__ : FnScope ["self", "block"] ["self", "block"] (defScope s_NotAlone___init__) := ⟨rfl, rfl, rfl, by decide +kernel, rfl, by decide +kernel, by decide +kernel⟩
theorem sc_is_between : FnScope ["value", "least", "most"] ["value", "least", "most"] (defScope s_is_between) := ⟨rfl, rfl, rfl, by decide +kernel, rfl, by decide +kernel, by decide +kernel⟩
theorem sc_Store___init__ : FnScope ["self", "many", "size", "_"] ["self", "many", "size"] (defScope s_Store___init__) := ⟨rfl, rfl, rfl, by decide +kernel, rfl, by decide +kernel, by decide +kernel⟩
theorem sc_Store_free : FnScope ["self", "count"] ["self"] (defScope s_Store_free) := ⟨rfl, rfl, rfl, by decide +kernel, rfl, by decide +kernel, by decide +kernel⟩
theorem sc_Store_check_held : FnScope ["self", "block"] ["self", "block"] (defScope s_Store_check_held) := ⟨rfl, rfl, rfl, by decide +kernel, rfl, by decide +kernel, by decide +kernel⟩
theorem sc_Store_check_alone : FnScope ["self", "block"] ["self", "block"] (defScope s_Store_check_alone) := ⟨rfl, rfl, rfl, by decide +kernel, rfl, by decide +kernel, by decide +kernel⟩
theorem sc_Store_take : FnScope ["self", "block"] ["self"] (defScope s_Store_take) := ⟨rfl, rfl, rfl, by decide +kernel, rfl, by decide +kernel, by decide +kernel⟩
theorem sc_Store_hold : FnScope ["self", "block"] ["self", "block"] (defScope s_Store_hold) := ⟨rfl, rfl, rfl, by decide +kernel, rfl, by decide +kernel, by decide +kernel⟩
theorem sc_Store_release : FnScope ["self", "block"] ["self", "block"] (defScope s_Store_release) := ⟨rfl, rfl, rfl, by decide +kernel, rfl, by decide +kernel, by decide +kernel⟩
theorem sc_Store_put_row : FnScope ["self", "block", "row"] ["self", "block", "row"] (defScope s_Store_put_row) := ⟨rfl, rfl, rfl, by decide +kernel, rfl, by decide +kernel, by decide +kernel⟩
theorem sc_Store_shorten : FnScope ["self", "block", "many"] ["self", "block", "many"] (defScope s_Store_shorten) := ⟨rfl, rfl, rfl, by decide +kernel, rfl, by decide +kernel, by decide +kernel⟩
theorem sc_Store_rows : FnScope ["self", "block"] ["self", "block"] (defScope s_Store_rows) := ⟨rfl, rfl, rfl, by decide +kernel, rfl, by decide +kernel, by decide +kernel⟩
theorem sc_Store_holders : FnScope ["self", "block"] ["self", "block"] (defScope s_Store_holders) := ⟨rfl, rfl, rfl, by decide +kernel, rfl, by decide +kernel, by decide +kernel⟩
theorem sc_L_pool : FnScope ["_law_script", "_law_many", "_law_pool_here", "_law_total", "_law_cell", "_law_rest", "_law_k", "_law_first", "_law_second"] ["_law_script", "_law_many"] (defScope s_L_pool) := ⟨rfl, rfl, rfl, by decide +kernel, rfl, by decide +kernel, by decide +kernel⟩
theorem sc_L_draw : FnScope ["_law_pool_here", "_law_many"] ["_law_pool_here", "_law_many"] (defScope s_L_draw) := ⟨rfl, rfl, rfl, by decide +kernel, rfl, by decide +kernel, by decide +kernel⟩
theorem sc_L_same : FnScope ["_law_told", "_law_due", "_law_k"] ["_law_told", "_law_due"] (defScope s_L_same) := ⟨rfl, rfl, rfl, by decide +kernel, rfl, by decide +kernel, by decide +kernel⟩
theorem sc_L_new : FnScope ["_law_pool_here", "_law_size", "_law_many"] ["_law_pool_here", "_law_size"] (defScope s_L_new) := ⟨rfl, rfl, rfl, by decide +kernel, rfl, by decide +kernel, by decide +kernel⟩
theorem sc_L_path : FnScope ["_law_pool_here", "_law_state", "_law_paths", "_law_begun", "_law_limit"] ["_law_pool_here", "_law_state"] (defScope s_L_path) := ⟨rfl, rfl, rfl, by decide +kernel, rfl, by decide +kernel, by decide +kernel⟩
theorem sc_L_letters : FnScope ["_law_pool_here", "_law_state", "_law_many", "_law_k"] ["_law_pool_here", "_law_state", "_law_many"] (defScope s_L_letters) := ⟨rfl, rfl, rfl, by decide +kernel, rfl, by decide +kernel, by decide +kernel⟩
theorem sc_L_row : FnScope ["_law_state", "_law_letters_here", "_law_k", "_law_weights", "_law_j"] ["_law_state", "_law_letters_here", "_law_k"] (defScope s_L_row) := ⟨rfl, rfl, rfl, by decide +kernel, rfl, by decide +kernel, by decide +kernel⟩
theorem sc_L_uses : FnScope ["_law_state", "_law_path_here", "_law_used", "_law_clock", "_law_end"] ["_law_state", "_law_path_here"] (defScope s_L_uses) := ⟨rfl, rfl, rfl, by decide +kernel, rfl, by decide +kernel, by decide +kernel⟩
theorem sc_L_known : FnScope ["_law_state", "_law_letters_here", "_law_out", "_law_path_here", "_law_end"] ["_law_state", "_law_letters_here"] (defScope s_L_known) := ⟨rfl, rfl, rfl, by decide +kernel, rfl, by decide +kernel, by decide +kernel⟩
theorem sc_L_release : FnScope ["_law_state", "_law_block", "_law_howmany"] ["_law_state", "_law_block"] (defScope s_L_release) := ⟨rfl, rfl, rfl, by decide +kernel, rfl, by decide +kernel, by decide +kernel⟩
theorem sc_L_dropped : FnScope ["_law_state", "_law_tree", "_law_used", "_law_best", "_law_path_here", "_law_longer", "_law_other"] ["_law_state"] (defScope s_L_dropped) := ⟨rfl, rfl, rfl, by decide +kernel, rfl, by decide +kernel, by decide +kernel⟩
theorem sc_L_as : FnScope ["_law_pool_here", "_law_row_here"] ["_law_pool_here", "_law_row_here"] (defScope s_L_as) := ⟨rfl, rfl, rfl, by decide +kernel, rfl, by decide +kernel, by decide +kernel⟩
theorem sc_L_filled : FnScope ["_law_store", "_law_state", "_law_letters_here", "_law_howmany", "_law_block", "_law_due", "_law_k"] ["_law_store", "_law_state", "_law_letters_here"] (defScope s_L_filled) := ⟨rfl, rfl, rfl, by decide +kernel, rfl, by decide +kernel, by decide +kernel⟩
theorem sc_L_shown : FnScope ["_law_store", "_law_tree", "_law_state", "_law_k"] ["_law_store", "_law_tree", "_law_state"] (defScope s_L_shown) := ⟨rfl, rfl, rfl, by decide +kernel, rfl, by decide +kernel, by decide +kernel⟩
theorem sc_L_put : FnScope ["_law_pool_here", "_law_store", "_law_tree", "_law_state", "_law_path_here", "_law_keeps", "_law_paths", "_law_howmany", "_law_block", "_law_due", "_law_handed"] ["_law_pool_here", "_law_store", "_law_tree", "_law_state", "_law_path_here", "_law_keeps"] (defScope s_L_put) := ⟨rfl, rfl, rfl, by decide +kernel, rfl, by decide +kernel, by decide +kernel⟩
theorem sc_law : FnScope ["_law_script", "_law_pool_here", "_law_state", "_law_k", "_law_store", "_law_tree", "_law_path_here", "_law_paths", "_law_more", "_law_block", "_law_first"] ["_law_script"] (defScope s_law) := ⟨rfl, rfl, rfl, by decide +kernel, rfl, by decide +kernel, by decide +kernel⟩

structure Txt (K : PySem.W.Frag) (mg : Str → Option Value) : Type where
  z_abs : mg "abs" = none
  z_bool : mg "bool" = none
  z_int : mg "int" = none
  z_isinstance : mg "isinstance" = none
  z_iter : mg "iter" = none
  z_len : mg "len" = none
  z_list : mg "list" = none
  z_min : mg "min" = none
  z_range : mg "range" = none
  z_sorted : mg "sorted" = none
  z_str : mg "str" = none
  z_sum : mg "sum" = none
  z_tuple : mg "tuple" = none
  c_Tree : Addr
  C_Tree : Cls K c_Tree
  gc_Tree : mg "Tree" = some (.ref c_Tree)
  n_Tree_store : NoAttr K c_Tree "store"
  n_Tree_paths : NoAttr K c_Tree "paths"
  n_Tree_under : NoAttr K c_Tree "under"
  n_Tree_used : NoAttr K c_Tree "used"
  n_Tree_clock : NoAttr K c_Tree "clock"
  c_Store : Addr
  C_Store : Cls K c_Store
  gc_Store : mg "Store" = some (.ref c_Store)
  n_Store_many : NoAttr K c_Store "many"
  n_Store_size : NoAttr K c_Store "size"
  n_Store_counts : NoAttr K c_Store "counts"
  n_Store_kept : NoAttr K c_Store "kept"
  c_InvalidNumber : Addr
  gc_InvalidNumber : mg "InvalidNumber" = some (.ref c_InvalidNumber)
  er_InvalidNumber : ErrN K c_InvalidNumber
  c_NoRoom : Addr
  gc_NoRoom : mg "NoRoom" = some (.ref c_NoRoom)
  er_NoRoom : ErrN K c_NoRoom
  c_NotAlone : Addr
  gc_NotAlone : mg "NotAlone" = some (.ref c_NotAlone)
  er_NotAlone : ErrN K c_NotAlone
  c_NotHeld : Addr
  gc_NotHeld : mg "NotHeld" = some (.ref c_NotHeld)
  er_NotHeld : ErrN K c_NotHeld
  tk_MOST_BLOCKS : Tok
  gk_MOST_BLOCKS : mg "MOST_BLOCKS" = some (.int 60 tk_MOST_BLOCKS)
  tk_MOST_ROWS : Tok
  gk_MOST_ROWS : mg "MOST_ROWS" = some (.int 8 tk_MOST_ROWS)
  a_u_wall : Addr
  d_u_wall : FuncData
  F_u_wall : Fun K "_wall" "_wall" s_u_wall a_u_wall d_u_wall
  g_u_wall : mg "_wall" = some (.ref a_u_wall)
  b_u_wall : Binds K d_u_wall ["k"] []
  a_Tree___init__ : Addr
  d_Tree___init__ : FuncData
  F_Tree___init__ : Fun K "__init__" "Tree.__init__" s_Tree___init__ a_Tree___init__ d_Tree___init__
  b_Tree___init__ : Binds K d_Tree___init__ ["self", "store"] []
  M_Tree : Mk K c_Tree a_Tree___init__
  a_Tree_beginnings : Addr
  d_Tree_beginnings : FuncData
  F_Tree_beginnings : Fun K "beginnings" "Tree.beginnings" s_Tree_beginnings a_Tree_beginnings d_Tree_beginnings
  b_Tree_beginnings : Binds K d_Tree_beginnings ["self", "letters"] []
  m_Tree_beginnings : Meth K c_Tree "beginnings" a_Tree_beginnings
  a_Tree_use : Addr
  d_Tree_use : FuncData
  F_Tree_use : Fun K "use" "Tree.use" s_Tree_use a_Tree_use d_Tree_use
  b_Tree_use : Binds K d_Tree_use ["self", "paths"] []
  m_Tree_use : Meth K c_Tree "use" a_Tree_use
  a_Tree_known : Addr
  d_Tree_known : FuncData
  F_Tree_known : Fun K "known" "Tree.known" s_Tree_known a_Tree_known d_Tree_known
  b_Tree_known : Binds K d_Tree_known ["self", "letters"] []
  m_Tree_known : Meth K c_Tree "known" a_Tree_known
  a_Tree_put : Addr
  d_Tree_put : FuncData
  F_Tree_put : Fun K "put" "Tree.put" s_Tree_put a_Tree_put d_Tree_put
  b_Tree_put : Binds K d_Tree_put ["self", "path", "block"] []
  m_Tree_put : Meth K c_Tree "put" a_Tree_put
  a_Tree_ends_of : Addr
  d_Tree_ends_of : FuncData
  F_Tree_ends_of : Fun K "ends_of" "Tree.ends_of" s_Tree_ends_of a_Tree_ends_of d_Tree_ends_of
  b_Tree_ends_of : Binds K d_Tree_ends_of ["self", "paths"] []
  m_Tree_ends_of : Meth K c_Tree "ends_of" a_Tree_ends_of
  a_Tree_oldest_of : Addr
  d_Tree_oldest_of : FuncData
  F_Tree_oldest_of : Fun K "oldest_of" "Tree.oldest_of" s_Tree_oldest_of a_Tree_oldest_of d_Tree_oldest_of
  b_Tree_oldest_of : Binds K d_Tree_oldest_of ["self", "paths"] []
  m_Tree_oldest_of : Meth K c_Tree "oldest_of" a_Tree_oldest_of
  a_Tree_drop : Addr
  d_Tree_drop : FuncData
  F_Tree_drop : Fun K "drop" "Tree.drop" s_Tree_drop a_Tree_drop d_Tree_drop
  b_Tree_drop : Binds K d_Tree_drop ["self"] []
  m_Tree_drop : Meth K c_Tree "drop" a_Tree_drop
  a_Tree___len__ : Addr
  d_Tree___len__ : FuncData
  F_Tree___len__ : Fun K "__len__" "Tree.__len__" s_Tree___len__ a_Tree___len__ d_Tree___len__
  b_Tree___len__ : Binds K d_Tree___len__ ["self"] []
  m_Tree___len__ : Meth K c_Tree "__len__" a_Tree___len__
  a_Tree___iter__ : Addr
  d_Tree___iter__ : FuncData
  F_Tree___iter__ : Fun K "__iter__" "Tree.__iter__" s_Tree___iter__ a_Tree___iter__ d_Tree___iter__
  b_Tree___iter__ : Binds K d_Tree___iter__ ["self"] []
  m_Tree___iter__ : Meth K c_Tree "__iter__" a_Tree___iter__
  a_InvalidNumber___init__ : Addr
  d_InvalidNumber___init__ : FuncData
  F_InvalidNumber___init__ : Fun K "__init__" "InvalidNumber.__init__" s_InvalidNumber___init__ a_InvalidNumber___init__ d_InvalidNumber___init__
  b_InvalidNumber___init__ : Binds K d_InvalidNumber___init__ ["self", "number"] []
  a_NoRoom___init__ : Addr
  d_NoRoom___init__ : FuncData
  F_NoRoom___init__ : Fun K "__init__" "NoRoom.__init__" s_NoRoom___init__ a_NoRoom___init__ d_NoRoom___init__
  b_NoRoom___init__ : Binds K d_NoRoom___init__ ["self", "many"] []
  a_NotHeld___init__ : Addr
  d_NotHeld___init__ : FuncData
  F_NotHeld___init__ : Fun K "__init__" "NotHeld.__init__" s_NotHeld___init__ a_NotHeld___init__ d_NotHeld___init__
  b_NotHeld___init__ : Binds K d_NotHeld___init__ ["self", "block"] []
  a_NotAlone___init__ : Addr
  d_NotAlone___init__ : FuncData
  F_NotAlone___init__ : Fun K "__init__" "NotAlone.__init__" s_NotAlone___init__ a_NotAlone___init__ d_NotAlone___init__
  b_NotAlone___init__ : Binds K d_NotAlone___init__ ["self", "block"] []
  a_is_between : Addr
  d_is_between : FuncData
  F_is_between : Fun K "is_between" "is_between" s_is_between a_is_between d_is_between
  g_is_between : mg "is_between" = some (.ref a_is_between)
  b_is_between : Binds K d_is_between ["value", "least", "most"] []
  a_Store___init__ : Addr
  d_Store___init__ : FuncData
  F_Store___init__ : Fun K "__init__" "Store.__init__" s_Store___init__ a_Store___init__ d_Store___init__
  b_Store___init__ : Binds K d_Store___init__ ["self", "many", "size"] []
  M_Store : Mk K c_Store a_Store___init__
  a_Store_free : Addr
  d_Store_free : FuncData
  F_Store_free : Fun K "free" "Store.free" s_Store_free a_Store_free d_Store_free
  b_Store_free : Binds K d_Store_free ["self"] []
  p_Store_free : Addr
  P_Store_free : PropOf K c_Store "free" p_Store_free a_Store_free
  a_Store_check_held : Addr
  d_Store_check_held : FuncData
  F_Store_check_held : Fun K "check_held" "Store.check_held" s_Store_check_held a_Store_check_held d_Store_check_held
  b_Store_check_held : Binds K d_Store_check_held ["self", "block"] []
  m_Store_check_held : Meth K c_Store "check_held" a_Store_check_held
  a_Store_check_alone : Addr
  d_Store_check_alone : FuncData
  F_Store_check_alone : Fun K "check_alone" "Store.check_alone" s_Store_check_alone a_Store_check_alone d_Store_check_alone
  b_Store_check_alone : Binds K d_Store_check_alone ["self", "block"] []
  m_Store_check_alone : Meth K c_Store "check_alone" a_Store_check_alone
  a_Store_take : Addr
  d_Store_take : FuncData
  F_Store_take : Fun K "take" "Store.take" s_Store_take a_Store_take d_Store_take
  b_Store_take : Binds K d_Store_take ["self"] []
  m_Store_take : Meth K c_Store "take" a_Store_take
  a_Store_hold : Addr
  d_Store_hold : FuncData
  F_Store_hold : Fun K "hold" "Store.hold" s_Store_hold a_Store_hold d_Store_hold
  b_Store_hold : Binds K d_Store_hold ["self", "block"] []
  m_Store_hold : Meth K c_Store "hold" a_Store_hold
  a_Store_release : Addr
  d_Store_release : FuncData
  F_Store_release : Fun K "release" "Store.release" s_Store_release a_Store_release d_Store_release
  b_Store_release : Binds K d_Store_release ["self", "block"] []
  m_Store_release : Meth K c_Store "release" a_Store_release
  a_Store_put_row : Addr
  d_Store_put_row : FuncData
  F_Store_put_row : Fun K "put_row" "Store.put_row" s_Store_put_row a_Store_put_row d_Store_put_row
  b_Store_put_row : Binds K d_Store_put_row ["self", "block", "row"] []
  m_Store_put_row : Meth K c_Store "put_row" a_Store_put_row
  a_Store_holders : Addr
  d_Store_holders : FuncData
  F_Store_holders : Fun K "holders" "Store.holders" s_Store_holders a_Store_holders d_Store_holders
  b_Store_holders : Binds K d_Store_holders ["self", "block"] []
  m_Store_holders : Meth K c_Store "holders" a_Store_holders
  a_L_pool : Addr
  d_L_pool : FuncData
  F_L_pool : Fun K "_law_pool" "_law_pool" s_L_pool a_L_pool d_L_pool
  g_L_pool : mg "_law_pool" = some (.ref a_L_pool)
  b_L_pool : Binds K d_L_pool ["_law_script", "_law_many"] []
  a_L_draw : Addr
  d_L_draw : FuncData
  F_L_draw : Fun K "_law_draw" "_law_draw" s_L_draw a_L_draw d_L_draw
  g_L_draw : mg "_law_draw" = some (.ref a_L_draw)
  b_L_draw : Binds K d_L_draw ["_law_pool_here", "_law_many"] []
  a_L_same : Addr
  d_L_same : FuncData
  F_L_same : Fun K "_law_same" "_law_same" s_L_same a_L_same d_L_same
  g_L_same : mg "_law_same" = some (.ref a_L_same)
  b_L_same : Binds K d_L_same ["_law_told", "_law_due"] []
  a_L_new : Addr
  d_L_new : FuncData
  F_L_new : Fun K "_law_new" "_law_new" s_L_new a_L_new d_L_new
  g_L_new : mg "_law_new" = some (.ref a_L_new)
  b_L_new : Binds K d_L_new ["_law_pool_here", "_law_size"] []
  a_L_path : Addr
  d_L_path : FuncData
  F_L_path : Fun K "_law_path" "_law_path" s_L_path a_L_path d_L_path
  g_L_path : mg "_law_path" = some (.ref a_L_path)
  b_L_path : Binds K d_L_path ["_law_pool_here", "_law_state"] []
  a_L_letters : Addr
  d_L_letters : FuncData
  F_L_letters : Fun K "_law_letters" "_law_letters" s_L_letters a_L_letters d_L_letters
  g_L_letters : mg "_law_letters" = some (.ref a_L_letters)
  b_L_letters : Binds K d_L_letters ["_law_pool_here", "_law_state", "_law_many"] []
  a_L_row : Addr
  d_L_row : FuncData
  F_L_row : Fun K "_law_row" "_law_row" s_L_row a_L_row d_L_row
  g_L_row : mg "_law_row" = some (.ref a_L_row)
  b_L_row : Binds K d_L_row ["_law_state", "_law_letters_here", "_law_k"] []
  a_L_uses : Addr
  d_L_uses : FuncData
  F_L_uses : Fun K "_law_uses" "_law_uses" s_L_uses a_L_uses d_L_uses
  g_L_uses : mg "_law_uses" = some (.ref a_L_uses)
  b_L_uses : Binds K d_L_uses ["_law_state", "_law_path_here"] []
  a_L_known : Addr
  d_L_known : FuncData
  F_L_known : Fun K "_law_known" "_law_known" s_L_known a_L_known d_L_known
  g_L_known : mg "_law_known" = some (.ref a_L_known)
  b_L_known : Binds K d_L_known ["_law_state", "_law_letters_here"] []
  a_L_release : Addr
  d_L_release : FuncData
  F_L_release : Fun K "_law_release" "_law_release" s_L_release a_L_release d_L_release
  g_L_release : mg "_law_release" = some (.ref a_L_release)
  b_L_release : Binds K d_L_release ["_law_state", "_law_block"] []
  a_L_dropped : Addr
  d_L_dropped : FuncData
  F_L_dropped : Fun K "_law_dropped" "_law_dropped" s_L_dropped a_L_dropped d_L_dropped
  g_L_dropped : mg "_law_dropped" = some (.ref a_L_dropped)
  b_L_dropped : Binds K d_L_dropped ["_law_state"] []
  a_L_as : Addr
  d_L_as : FuncData
  F_L_as : Fun K "_law_as" "_law_as" s_L_as a_L_as d_L_as
  g_L_as : mg "_law_as" = some (.ref a_L_as)
  b_L_as : Binds K d_L_as ["_law_pool_here", "_law_row_here"] []
  a_L_filled : Addr
  d_L_filled : FuncData
  F_L_filled : Fun K "_law_filled" "_law_filled" s_L_filled a_L_filled d_L_filled
  g_L_filled : mg "_law_filled" = some (.ref a_L_filled)
  b_L_filled : Binds K d_L_filled ["_law_store", "_law_state", "_law_letters_here"] []
  a_L_shown : Addr
  d_L_shown : FuncData
  F_L_shown : Fun K "_law_shown" "_law_shown" s_L_shown a_L_shown d_L_shown
  g_L_shown : mg "_law_shown" = some (.ref a_L_shown)
  b_L_shown : Binds K d_L_shown ["_law_store", "_law_tree", "_law_state"] []
  a_L_put : Addr
  d_L_put : FuncData
  F_L_put : Fun K "_law_put" "_law_put" s_L_put a_L_put d_L_put
  g_L_put : mg "_law_put" = some (.ref a_L_put)
  b_L_put : Binds K d_L_put ["_law_pool_here", "_law_store", "_law_tree", "_law_state", "_law_path_here", "_law_keeps"] []
  a_law : Addr
  d_law : FuncData
  F_law : Fun K "law" "law" s_law a_law d_law
  g_law : mg "law" = some (.ref a_law)
  b_law : Binds K d_law ["_law_script"] []
  ox_InvalidNumber : OexC K c_InvalidNumber
  ic_InvalidNumber : PySem.W.findIn K (.ref c_InvalidNumber) "__init__" = some (some (.ref a_InvalidNumber___init__))
  ti_InvalidNumber : PySem.W.typeIn K (.ref a_InvalidNumber___init__) = some (.type "function")
  nf_InvalidNumber : PySem.W.findIn K (.ref c_InvalidNumber) "number" = some none
  xf_InvalidNumber : XfC K c_InvalidNumber
  ec_InvalidNumber : ExcC K c_InvalidNumber
  sv_InvalidNumber : PySem.W.subIn K (.ref c_InvalidNumber) (.type "ValueError") = some true
  sub_InvalidNumber_InvalidNumber : PySem.W.subIn K (.ref c_InvalidNumber) (.ref c_InvalidNumber) = some true
  sub_InvalidNumber_NoRoom : PySem.W.subIn K (.ref c_InvalidNumber) (.ref c_NoRoom) = some false
  sub_InvalidNumber_NotAlone : PySem.W.subIn K (.ref c_InvalidNumber) (.ref c_NotAlone) = some false
  sub_InvalidNumber_NotHeld : PySem.W.subIn K (.ref c_InvalidNumber) (.ref c_NotHeld) = some false
  ox_NoRoom : OexC K c_NoRoom
  ic_NoRoom : PySem.W.findIn K (.ref c_NoRoom) "__init__" = some (some (.ref a_NoRoom___init__))
  ti_NoRoom : PySem.W.typeIn K (.ref a_NoRoom___init__) = some (.type "function")
  nf_NoRoom : PySem.W.findIn K (.ref c_NoRoom) "many" = some none
  xf_NoRoom : XfC K c_NoRoom
  ec_NoRoom : ExcC K c_NoRoom
  sv_NoRoom : PySem.W.subIn K (.ref c_NoRoom) (.type "ValueError") = some true
  sub_NoRoom_InvalidNumber : PySem.W.subIn K (.ref c_NoRoom) (.ref c_InvalidNumber) = some false
  sub_NoRoom_NoRoom : PySem.W.subIn K (.ref c_NoRoom) (.ref c_NoRoom) = some true
  sub_NoRoom_NotAlone : PySem.W.subIn K (.ref c_NoRoom) (.ref c_NotAlone) = some false
  sub_NoRoom_NotHeld : PySem.W.subIn K (.ref c_NoRoom) (.ref c_NotHeld) = some false
  ox_NotAlone : OexC K c_NotAlone
  ic_NotAlone : PySem.W.findIn K (.ref c_NotAlone) "__init__" = some (some (.ref a_NotAlone___init__))
  ti_NotAlone : PySem.W.typeIn K (.ref a_NotAlone___init__) = some (.type "function")
  nf_NotAlone : PySem.W.findIn K (.ref c_NotAlone) "block" = some none
  xf_NotAlone : XfC K c_NotAlone
  ec_NotAlone : ExcC K c_NotAlone
  sv_NotAlone : PySem.W.subIn K (.ref c_NotAlone) (.type "ValueError") = some true
  sub_NotAlone_InvalidNumber : PySem.W.subIn K (.ref c_NotAlone) (.ref c_InvalidNumber) = some false
  sub_NotAlone_NoRoom : PySem.W.subIn K (.ref c_NotAlone) (.ref c_NoRoom) = some false
  sub_NotAlone_NotAlone : PySem.W.subIn K (.ref c_NotAlone) (.ref c_NotAlone) = some true
  sub_NotAlone_NotHeld : PySem.W.subIn K (.ref c_NotAlone) (.ref c_NotHeld) = some false
  ox_NotHeld : OexC K c_NotHeld
  ic_NotHeld : PySem.W.findIn K (.ref c_NotHeld) "__init__" = some (some (.ref a_NotHeld___init__))
  ti_NotHeld : PySem.W.typeIn K (.ref a_NotHeld___init__) = some (.type "function")
  nf_NotHeld : PySem.W.findIn K (.ref c_NotHeld) "block" = some none
  xf_NotHeld : XfC K c_NotHeld
  ec_NotHeld : ExcC K c_NotHeld
  sv_NotHeld : PySem.W.subIn K (.ref c_NotHeld) (.type "ValueError") = some true
  sub_NotHeld_InvalidNumber : PySem.W.subIn K (.ref c_NotHeld) (.ref c_InvalidNumber) = some false
  sub_NotHeld_NoRoom : PySem.W.subIn K (.ref c_NotHeld) (.ref c_NoRoom) = some false
  sub_NotHeld_NotAlone : PySem.W.subIn K (.ref c_NotHeld) (.ref c_NotAlone) = some false
  sub_NotHeld_NotHeld : PySem.W.subIn K (.ref c_NotHeld) (.ref c_NotHeld) = some true

section
variable {P : Program} {w : World} {K : PySem.W.Frag} {mg : Str → Option Value} {base : Heap}
theorem ok_InvalidNumber___init__ (T : Txt K mg) : FnOk P w K mg base CX0 1 T.a_InvalidNumber___init__ T.d_InvalidNumber___init__ ["self", "number"] (spErr K "number") := by
  refine T.F_InvalidNumber___init__.ok sc_InvalidNumber___init__ (fun vs H Q E h => ?_) (fun cdv A outer s H vs Q E hr h => ?_)
  · obtain ⟨_, _, _, rfl, _⟩ := h
    rfl
  · obtain ⟨a, C, v, rfl, h0, T1, n1, k⟩ := h
    refine ⟨_, (pss_one (ps_ost (pv 0) (pv 1) rfl)), ?_⟩
    refine go_start (σ' := [some (.ref a), some v]) rfl ?_
    exact ⟨v, rfl, .ref a, rfl, a, C, rfl, T1, n1, .inl ⟨h0, fun dx hdx hne => k dx hdx hne⟩⟩
theorem ok_NoRoom___init__ (T : Txt K mg) : FnOk P w K mg base CX0 1 T.a_NoRoom___init__ T.d_NoRoom___init__ ["self", "many"] (spErr K "many") := by
  refine T.F_NoRoom___init__.ok sc_NoRoom___init__ (fun vs H Q E h => ?_) (fun cdv A outer s H vs Q E hr h => ?_)
  · obtain ⟨_, _, _, rfl, _⟩ := h
    rfl
  · obtain ⟨a, C, v, rfl, h0, T1, n1, k⟩ := h
    refine ⟨_, (pss_one (ps_ost (pv 0) (pv 1) rfl)), ?_⟩
    refine go_start (σ' := [some (.ref a), some v]) rfl ?_
    exact ⟨v, rfl, .ref a, rfl, a, C, rfl, T1, n1, .inl ⟨h0, fun dx hdx hne => k dx hdx hne⟩⟩
theorem ok_NotAlone___init__ (T : Txt K mg) : FnOk P w K mg base CX0 1 T.a_NotAlone___init__ T.d_NotAlone___init__ ["self", "block"] (spErr K "block") := by
  refine T.F_NotAlone___init__.ok sc_NotAlone___init__ (fun vs H Q E h => ?_) (fun cdv A outer s H vs Q E hr h => ?_)
  · obtain ⟨_, _, _, rfl, _⟩ := h
    rfl
  · obtain ⟨a, C, v, rfl, h0, T1, n1, k⟩ := h
    refine ⟨_, (pss_one (ps_ost (pv 0) (pv 1) rfl)), ?_⟩
    refine go_start (σ' := [some (.ref a), some v]) rfl ?_
    exact ⟨v, rfl, .ref a, rfl, a, C, rfl, T1, n1, .inl ⟨h0, fun dx hdx hne => k dx hdx hne⟩⟩
theorem ok_NotHeld___init__ (T : Txt K mg) : FnOk P w K mg base CX0 1 T.a_NotHeld___init__ T.d_NotHeld___init__ ["self", "block"] (spErr K "block") := by
  refine T.F_NotHeld___init__.ok sc_NotHeld___init__ (fun vs H Q E h => ?_) (fun cdv A outer s H vs Q E hr h => ?_)
  · obtain ⟨_, _, _, rfl, _⟩ := h
    rfl
  · obtain ⟨a, C, v, rfl, h0, T1, n1, k⟩ := h
    refine ⟨_, (pss_one (ps_ost (pv 0) (pv 1) rfl)), ?_⟩
    refine go_start (σ' := [some (.ref a), some v]) rfl ?_
    exact ⟨v, rfl, .ref a, rfl, a, C, rfl, T1, n1, .inl ⟨h0, fun dx hdx hne => k dx hdx hne⟩⟩

/-! ### is_between -/
def sp_is_between (K : PySem.W.Frag) : Sp := fun vs H Q _ => ∃ (x : V) (a b : Int) (r : Bool), vs = [x, .int a, .int b] ∧
  ((∃ v, x = .int v ∧ r = decide (a ≤ v ∧ v ≤ b)) ∨ (r = false ∧ ∃ tn, TyX K H x (.type tn) ∧ (tn = "bool" ∨ tn = "NoneType" ∨ tn = "str" ∨ tn = "tuple" ∨ tn = "list"))) ∧ Q (.bl r) H
theorem ok_is_between (T : Txt K mg) : FnOk P w K mg base CX0 1 T.a_is_between T.d_is_between ["value", "least", "most"] (sp_is_between K) := by
  refine T.F_is_between.ok sc_is_between (fun vs H Q E h => ?_) (fun cdv A outer s H vs Q E hr h => ?_)
  · obtain ⟨_, _, _, _, rfl, _⟩ := h
    rfl
  · obtain ⟨x, a, b, r, rfl, hx, k⟩ := h
    refine ⟨_, (pss_one (ps_ret (pe_and (pe_callB (k_isi (K := K) rfl) (by rfl) T.z_isinstance (by decide +kernel) (pa_cons (pv 0) (pa_cons (pe_bltn (v := .ty "int") (by rfl) T.z_int (by decide +kernel) rfl) pa_nil))) (pe_and (pe_not (pe_callB (k_isi (K := K) rfl) (by rfl) T.z_isinstance (by decide +kernel) (pa_cons (pv 0) (pa_cons (pe_bltn (v := .ty "bool") (by rfl) T.z_bool (by decide +kernel) rfl) pa_nil)))) (pe_one (pe_chain op_le op_le (pv 1) (pv 0) (pv 2))))))), ?_⟩
    refine go_start (σ' := [some x, some (.int a), some (.int b)]) rfl ?_
    try dsimp only [cxOf, Cx.nox, Cx.wish]
    rcases hx with ⟨v, rfl, rfl⟩ | ⟨rfl, tn, ht, h5⟩
    · walk_at "go"
      refine w_isi (tn := "int") (b := true) (.base (.int _)) (by decide +kernel) ?_
      walk_at "go"
      refine w_isi (tn := "int") (b := false) (.base (.int _)) (by decide +kernel) ?_
      walk_at "go"
      refine w_iteD (fun h1 => ?_) (fun h1 => ?_)
      · walk_at "go"
        rw [show decide (v ≤ b) = decide (a ≤ v ∧ v ≤ b) by simp [h1]]
        exact k
      · walk_at "go"
        rw [show false = decide (a ≤ v ∧ v ≤ b) by simp [h1]]
        exact k
    · walk_at "go"
      rcases h5 with rfl | h5
      · refine w_isi (tn := "bool") (b := true) ht (by decide +kernel) ?_
        walk_at "go"
        refine w_isi (tn := "bool") (b := true) ht (by decide +kernel) ?_
        walk_at "go"
        exact k
      · have e : kitB tn "int" = some false := by rcases h5 with rfl | rfl | rfl | rfl <;> decide +kernel
        refine w_isi (tn := tn) (b := false) ht e ?_
        walk_at "go"
        exact k


/-! ### values that are no numbers, or others -/
structure Shows (d : PyData) : Prop where
  ok : d.showable = true
  nod : d.hasDict = false
  deep : d.depth ≤ 30
  size : d.shown.length ≤ 10000 ∨ ∃ i, d = .int i
def ROdd (K : PySem.W.Frag) : Rep PyData := fun H v d => Shows d ∧ ((v = .non ∧ d = .none) ∨ (∃ b, v = .bl b ∧ d = .bool b) ∨ (∃ i, v = .int i ∧ d = .int i) ∨ (∃ s, v = .str s ∧ d = .str s) ∨
  ∃ (a : Addr) (b : Bool) (ns : List Int), v = .ref a ∧ Sq b K H a (ns.map V.int) ∧ d = if b then .list (ns.map PyData.int) else .tuple (ns.map PyData.int))
theorem ROdd.mono {K : PySem.W.Frag} : RMono (ROdd K) := fun _ _ _ _ s ⟨h, k⟩ => ⟨h, by
  rcases k with k | k | k | k | ⟨a, b, ns, e, hq, ed⟩
  · exact .inl k
  · exact .inr (.inl k)
  · exact .inr (.inr (.inl k))
  · exact .inr (.inr (.inr (.inl k)))
  · exact .inr (.inr (.inr (.inr ⟨a, b, ns, e, s.sq hq, ed⟩)))⟩
theorem ROdd.dp {K : PySem.W.Frag} {H : Hp} {v : V} {d : PyData} (h : ROdd K H v d) : Dp K H v d := by
  obtain ⟨_, ⟨rfl, rfl⟩ | ⟨b, rfl, rfl⟩ | ⟨i, rfl, rfl⟩ | ⟨s, rfl, rfl⟩ | ⟨a, b, ns, rfl, hq, rfl⟩⟩ := h
  · exact .non
  · exact .bl _
  · exact .int _
  · exact .str _
  · exact dp_ints hq
def inB (a b : Int) : PyData → Bool
  | .int i => decide (a ≤ i ∧ i ≤ b)
  | _ => false
theorem ROdd.between {K : PySem.W.Frag} {H : Hp} {v : V} {d : PyData} (h : ROdd K H v d) (a b : Int) : (∃ i, v = .int i ∧ inB a b d = decide (a ≤ i ∧ i ≤ b)) ∨ (inB a b d = false ∧ ∃ tn, TyX K H v (.type tn) ∧ (tn = "bool" ∨ tn = "NoneType" ∨ tn = "str" ∨ tn = "tuple" ∨ tn = "list")) := by
  obtain ⟨_, ⟨rfl, rfl⟩ | ⟨b, rfl, rfl⟩ | ⟨i, rfl, rfl⟩ | ⟨s, rfl, rfl⟩ | ⟨a, b, ns, rfl, hq, rfl⟩⟩ := h
  · exact .inr ⟨rfl, _, .base .non, .inr (.inl rfl)⟩
  · exact .inr ⟨rfl, _, .base (.bl _), .inl rfl⟩
  · exact .inl ⟨i, rfl, rfl⟩
  · exact .inr ⟨rfl, _, .base (.str _), .inr (.inr (.inl rfl))⟩
  · cases b with
    | true => exact .inr ⟨rfl, _, tyx_lst hq, .inr (.inr (.inr (.inr rfl)))⟩
    | false => exact .inr ⟨rfl, _, tyx_tup hq, .inr (.inr (.inr (.inl rfl)))⟩
theorem ROdd.int {K : PySem.W.Frag} {H : Hp} {i : Int} (h : i.natAbs.log2 < 1920) : ROdd K H (.int i) (.int i) := ⟨⟨by show decide (i.natAbs.log2 < 1920) = true; exact decide_eq_true h, rfl, by show (0 : Nat) ≤ 30; omega, .inr ⟨i, rfl⟩⟩, .inr (.inr (.inl ⟨i, rfl, rfl⟩))⟩
theorem log_small {i : Int} (h : i.natAbs < 2 ^ 200) : i.natAbs.log2 < 1920 := by
  by_cases h0 : i.natAbs = 0
  · rw [h0]; decide
  · exact Nat.lt_of_lt_of_le ((Nat.log2_lt h0).mpr h) (by omega)
theorem in_not {a b i : Int} (h : ¬ (a ≤ i ∧ i ≤ b)) : inB a b (.int i) = false := decide_eq_false h

/-! ### values told by a whole number or none; raising; nothing let out -/
def RAny (K : PySem.W.Frag) (H : Hp) (v : V) : Option Int → Prop
  | some i => v = .int i
  | none => ∃ tn, TyX K H v (.type tn) ∧ (tn = "bool" ∨ tn = "NoneType" ∨ tn = "str" ∨ tn = "tuple" ∨ tn = "list")
def btw (a b : Int) : Option Int → Bool
  | some i => decide (a ≤ i ∧ i ≤ b)
  | none => false
theorem RAny.btw {K : PySem.W.Frag} {H : Hp} {v : V} {o : Option Int} (h : RAny K H v o) (a b : Int) : (∃ i, v = .int i ∧ btw a b o = decide (a ≤ i ∧ i ≤ b)) ∨ (My.btw a b o = false ∧ ∃ tn, TyX K H v (.type tn) ∧ (tn = "bool" ∨ tn = "NoneType" ∨ tn = "str" ∨ tn = "tuple" ∨ tn = "list")) := by
  cases o with
  | some i => exact .inl ⟨i, h, rfl⟩
  | none => exact .inr ⟨rfl, h⟩
theorem w_raiseV {K : PySem.W.Frag} {C : Addr} {f : Str} {i : Nat} {v : V} {QX : XK} {σ : L2.St} {H : Hp} (o : OexC K C) (n : PySem.W.findIn K (.ref C) f = some none) (h : σ[i]? = some (some v)) (q : RaiseQ QX H C f v) : tMkO C (spErr K f) [] (tCons (tVar i) tNil) σ H QX :=
  w_mkErrV o n h fun d hd => q d _ hd (Same.new hd) upd_same
theorem w_raiseC {K : PySem.W.Frag} {C : Addr} {f : Str} {v : V} {QX : XK} {σ : L2.St} {H : Hp} (o : OexC K C) (n : PySem.W.findIn K (.ref C) f = some none) (q : RaiseQ QX H C f v) : tMkO C (spErr K f) [] (tCons (tC v) tNil) σ H QX :=
  w_mkErr o n ⟨v, rfl, fun d hd => q d _ hd (Same.new hd) upd_same⟩ fun hq z => hq _ _ z
theorem toCX0 {P : Program} {w : World} {K : PySem.W.Frag} {mg : Str → Option Value} {base : Heap} {k : Nat} {f : Addr} {fd : FuncData} {ps : List Str} {sp : Sp} (F : FnOk P w K mg base (L2N.CX P w) k f fd ps sp) : FnOk P w K mg base CX0 k f fd ps (fun vs H Q _ => sp vs H Q (fun _ _ _ => False)) :=
  ⟨fun vs H Q E h => F.len vs H Q _ h, fun A outer s H args us vs Q E hr e0 hb r h => codeAny_mono (F.run A outer s H args us vs Q (fun _ _ _ => False) hr e0 hb r h) fun r' s' z => by
    match r', z with
    | .error _, z => exact z.elim fun _ ⟨_, _, _, _, _, _, _, _, _, _, _, q⟩ => q.elim
    | .ok (.ret u), z => exact z
    | .ok .next, z => exact z
    | .ok .brk, z => exact z
    | .ok .cont, z => exact z⟩

/-! ### letters, numbers in a list or a tuple -/
/-- numbers in a list or a tuple; rows of such -/
def RVecX (K : PySem.W.Frag) : Rep (List Int) := fun H v ns => ∃ b, RVec b K H v ns
theorem RVecX.mono {K : PySem.W.Frag} : RMono (RVecX K) := fun _ _ _ _ s ⟨b, h⟩ => ⟨b, RVec.mono _ _ _ _ s h⟩
def natI (ls : List Nat) : List Int := ls.map fun l => ((l : Nat) : Int)
theorem natI_len (ls : List Nat) : (natI ls).length = ls.length := List.length_map ..
theorem natI_at {ls : List Nat} {i : Nat} {y : V} (h : ((natI ls).map V.int)[i]? = some y) : ∃ l, ls[i]? = some l ∧ y = .int (l : Nat) := by
  rw [natI, List.map_map, List.getElem?_map] at h
  cases e : ls[i]? with
  | none => rw [e] at h; cases h
  | some l => rw [e] at h; exact ⟨l, rfl, (Option.some.inj h).symm⟩
theorem line_of {n : Nat} (h : n ≤ 1000000) : n < sizeLine := by rw [sizeLine_eq]; omega

/-! ### letters behind letters -/
theorem natI_snoc (ls : List Nat) (l : Nat) : (natI ls).map V.int ++ [V.int (l : Nat)] = (natI (ls ++ [l])).map V.int := by
  unfold natI
  rw [List.map_append, List.map_append]
  rfl
theorem natI_catV (a b : List Nat) : (natI a).map V.int ++ (natI b).map V.int = (natI (a ++ b)).map V.int := by
  unfold natI
  rw [List.map_append, List.map_append]

/-! ### what the law keeps: rows under the letters up to them -/
def keyI (ls : List Nat) : List Key := ls.map fun (l : Nat) => Sum.inl ((l : Nat) : Int)
theorem keyI_V (ls : List Nat) : (keyI ls).map kV = (natI ls).map V.int := by
  unfold keyI natI
  rw [List.map_map, List.map_map]
  rfl
theorem keyI_inj {a b : List Nat} (h : keyI a = keyI b) : a = b := by
  have h2 := congrArg (List.map fun k : Key => match k with | .inl i => i.toNat | .inr _ => 0) h
  unfold keyI at h2
  rw [List.map_map, List.map_map] at h2
  have e : ∀ l : List Nat, l.map ((fun k : Key => match k with | .inl i => i.toNat | .inr _ => 0) ∘ fun (l : Nat) => Sum.inl ((l : Nat) : Int)) = l := fun l => by
    induction l with
    | nil => rfl
    | cons a r ih => rw [List.map_cons, ih]; rfl
  rw [e, e] at h2
  exact h2

/-! ### the tree of beginnings in plain data -/
abbrev Path := List Nat
def ltP (a b : Path) : Bool := HT.lexLt (natI a) (natI b)
theorem lex_tot : ∀ xs ys : List Int, HT.lexLt xs ys = false → HT.lexLt ys xs = false → xs = ys
  | [], [], _, _ => rfl
  | [], y :: ys, h, _ => by rw [HT.lexLt_nil_cons] at h; cases h
  | x :: xs, [], _, h => by rw [HT.lexLt_nil_cons] at h; cases h
  | x :: xs, y :: ys, h1, h2 => by
    rw [HT.lexLt_cons] at h1 h2
    by_cases e : x = y
    · subst e
      rw [if_pos rfl] at h1 h2
      rw [lex_tot xs ys h1 h2]
    · rw [if_neg e] at h1
      rw [if_neg (Ne.symm e)] at h2
      have := of_decide_eq_false h1
      have := of_decide_eq_false h2
      omega
theorem natI_inj {a b : List Nat} (h : natI a = natI b) : a = b := by
  have h2 := congrArg (List.map Int.toNat) h
  unfold natI at h2
  rw [List.map_map, List.map_map] at h2
  have e : ∀ l : List Nat, l.map (Int.toNat ∘ fun (l : Nat) => ((l : Nat) : Int)) = l := fun l => by
    induction l with
    | nil => rfl
    | cons a r ih => rw [List.map_cons, ih]; rfl
  rw [e, e] at h2
  exact h2
theorem ltP_tot {a b : Path} (h1 : ltP a b = false) (h2 : ltP b a = false) : a = b := natI_inj (lex_tot _ _ h1 h2)
theorem ltP_swo : SrtO.Swo ltP := NtL.swo_lexL natI
def Asc (ps : List Path) : Prop := SrtO.Srtd ltP ps
theorem eqvP (a b : Path) : SrtO.eqv ltP a b = (b == a) := by
  by_cases h : b = a
  · subst h
    rw [beq_self_eq_true]
    exact SrtO.eqv_iff.mpr ⟨ltP_swo.refl b, ltP_swo.refl b⟩
  · rw [beq_eq_false_iff_ne.mpr h]
    cases e : SrtO.eqv ltP a b with
    | false => rfl
    | true =>
      obtain ⟨h1, h2⟩ := SrtO.eqv_iff.mp e
      exact absurd (ltP_tot h2 h1) h
theorem asc_uniq {l m : List Path} (h1 : Asc l) (h2 : Asc m) (p : l.Perm m) : l = m :=
  SrtO.stb_uniq ltP_swo h1 h2 ⟨p, fun x => by
    have e : (SrtO.eqv ltP x) = fun b => b == x := funext fun b => eqvP x b
    rw [e, List.filter_beq, List.filter_beq, p.count_eq]⟩
def sortP (ps : List Path) : List Path := ps.mergeSort fun a b => !ltP b a
theorem sortP_perm (ps : List Path) : (sortP ps).Perm ps := List.mergeSort_perm ..
theorem sortP_asc (ps : List Path) : Asc (sortP ps) := by
  have h := List.pairwise_mergeSort (le := fun a b : Path => !ltP b a) (fun a b c h1 h2 => by
    simp only [Bool.not_eq_true'] at h1 h2 ⊢
    exact ltP_swo.tr a b c h1 h2) (fun a b => by
    cases e : ltP b a with
    | false => rfl
    | true => simp [ltP_swo.asym b a e]) ps
  exact h.imp fun h => by simpa using h
theorem sortP_of {l ps : List Path} (h : Asc l) (p : l.Perm ps) : l = sortP ps := asc_uniq h (sortP_asc ps) (p.trans (sortP_perm ps).symm)
theorem sortP_congr {l m : List Path} (p : l.Perm m) : sortP l = sortP m := sortP_of (sortP_asc l) ((sortP_perm l).trans p)
theorem mem_sortP {ps : List Path} {p : Path} : p ∈ sortP ps ↔ p ∈ ps := (sortP_perm ps).mem_iff
theorem sortP_nodup {ps : List Path} : (sortP ps).Nodup ↔ ps.Nodup := (sortP_perm ps).nodup_iff
theorem sortP_len {ps : List Path} : (sortP ps).length = ps.length := (sortP_perm ps).length_eq
theorem nodup_perm {α : Type} [DecidableEq α] {l m : List α} (h1 : l.Nodup) (h2 : m.Nodup) (h : ∀ x, x ∈ l ↔ x ∈ m) : l.Perm m := List.perm_iff_count.mpr fun x => by
  rw [h1.count, h2.count]
  by_cases e : x ∈ l
  · rw [if_pos e, if_pos ((h x).mp e)]
  · rw [if_neg e, if_neg fun q => e ((h x).mpr q)]
theorem nodup_len {α : Type} [DecidableEq α] : ∀ {l m : List α}, l.Nodup → (∀ x ∈ l, x ∈ m) → l.length ≤ m.length
  | [], _, _, _ => Nat.zero_le _
  | a :: l, m, h1, h => by
    have h2 := List.nodup_cons.mp h1
    have ha := h a List.mem_cons_self
    have := nodup_len (m := m.erase a) h2.2 fun x hx => (List.mem_erase_of_ne (fun e => h2.1 (by rw [← e]; exact hx))).mpr (h x (List.mem_cons_of_mem _ hx))
    rw [List.length_erase_of_mem ha] at this
    have : 0 < m.length := List.length_pos_of_mem ha
    rw [List.length_cons]
    omega
structure TreeD where
  paths : List Path
  under : Path → Option Nat
  used : Path → Option Nat
  clock : Nat
def begD (size : Nat) (u : Path → Option Nat) (ls : Path) : List Path := ((List.range (ls.length / size)).map fun j => ls.take ((j + 1) * size)).takeWhile fun p => (u p).isSome
def useF (used : Path → Option Nat) (ps : List Path) (c : Nat) : Path → Option Nat := fun p => if p ∈ ps then some c else used p
def TreeD.use (d : TreeD) (ps : List Path) : TreeD := { d with used := useF d.used ps (d.clock + 1), clock := d.clock + 1 }
def aheadP (size : Nat) (ls : Path) : Path := ls.take (ls.length - size)
def newP (size : Nat) (d : TreeD) (ls : Path) : Bool := (d.under ls).isNone && (decide (aheadP size ls = []) || (d.under (aheadP size ls)).isSome)
def TreeD.add (d : TreeD) (ls : Path) (b : Nat) : TreeD := { d with under := fun p => if p = ls then some b else d.under p, paths := sortP (d.paths ++ [ls]) }
def TreeD.put (size : Nat) (d : TreeD) (ls : Path) (b : Nat) : TreeD := if newP size d ls = true then (d.add ls b).use (begD size (d.add ls b).under ls) else d.use (begD size d.under ls)
structure TreeOk (size : Nat) (d : TreeD) : Prop where
  pos : 1 ≤ size
  asc : Asc d.paths
  nod : d.paths.Nodup
  dom : ∀ p, (d.under p).isSome = true ↔ p ∈ d.paths
  udom : ∀ p, (d.used p).isSome = true ↔ p ∈ d.paths
  shape : ∀ p ∈ d.paths, ∃ k, p.length = (k + 1) * size
  pre : ∀ p ∈ d.paths, aheadP size p = [] ∨ aheadP size p ∈ d.paths
theorem begD_mem {size : Nat} {u : Path → Option Nat} {ls p : Path} (h : p ∈ begD size u ls) : (u p).isSome = true ∧ ∃ j, (j + 1) * size ≤ ls.length ∧ p = ls.take ((j + 1) * size) := by
  have h1 := List.all_takeWhile (p := fun p => (u p).isSome) (l := (List.range (ls.length / size)).map fun j => ls.take ((j + 1) * size))
  refine ⟨List.all_eq_true.mp h1 p h, ?_⟩
  have h2 := (List.takeWhile_sublist _).mem h
  obtain ⟨j, hj, e⟩ := List.mem_map.mp h2
  have hj := List.mem_range.mp hj
  refine ⟨j, ?_, e.symm⟩
  have : (j + 1) * size ≤ ls.length / size * size := Nat.mul_le_mul_right _ hj
  exact Nat.le_trans this (Nat.div_mul_le_self _ _)
theorem TreeOk.use {size : Nat} {d : TreeD} (h : TreeOk size d) {ps : List Path} (hp : ∀ p ∈ ps, p ∈ d.paths) : TreeOk size (d.use ps) := by
  refine ⟨h.pos, h.asc, h.nod, h.dom, fun p => ?_, h.shape, h.pre⟩
  show (useF d.used ps (d.clock + 1) p).isSome = true ↔ p ∈ d.paths
  unfold useF
  by_cases e : p ∈ ps
  · rw [if_pos e]; exact ⟨fun _ => hp p e, fun _ => rfl⟩
  · rw [if_neg e]; exact h.udom p
theorem TreeOk.begs {size : Nat} {d : TreeD} (h : TreeOk size d) (ls : Path) : ∀ p ∈ begD size d.under ls, p ∈ d.paths := fun p hp => (h.dom p).mp (begD_mem hp).1
theorem take_take_le {α : Type} {l : List α} {i j : Nat} (h : i ≤ j) : (l.take j).take i = l.take i := by rw [List.take_take, Nat.min_eq_left h]
/-- all beginnings of a path are paths -/
theorem TreeOk.beg {size : Nat} {d : TreeD} (h : TreeOk size d) : ∀ (k : Nat) {p : Path}, p ∈ d.paths → p.length = (k + 1) * size → ∀ j, j ≤ k → p.take ((j + 1) * size) ∈ d.paths
  | 0, p, hp, hl, j, hj => by
    rw [show j = 0 by omega, ← hl, List.take_length]; exact hp
  | k + 1, p, hp, hl, j, hj => by
    by_cases e : j = k + 1
    · rw [e, ← hl, List.take_length]; exact hp
    · have ha : (aheadP size p).length = (k + 1) * size := by
        unfold aheadP
        rw [List.length_take, hl, Nat.add_mul (k + 1), Nat.one_mul]
        omega
      have hpos := h.pos
      have hk : 0 < (k + 1) * size := Nat.mul_pos (by omega) (by omega)
      rcases h.pre p hp with q | q
      · rw [q] at ha; simp only [List.length_nil] at ha; omega
      · have r := TreeOk.beg h k q ha j (by omega)
        unfold aheadP at r
        rwa [take_take_le] at r
        have : (j + 1) * size ≤ (k + 1) * size := Nat.mul_le_mul_right _ (by omega)
        rw [hl, Nat.add_mul (k + 1), Nat.one_mul]
        omega
theorem takeWhile_all {α : Type} {q : α → Bool} : ∀ {l : List α}, (∀ x ∈ l, q x = true) → l.takeWhile q = l
  | [], _ => rfl
  | a :: l, h => by rw [List.takeWhile_cons, h a List.mem_cons_self, if_pos rfl, takeWhile_all fun x hx => h x (List.mem_cons_of_mem _ hx)]
theorem begD_all {size : Nat} {d : TreeD} (h : TreeOk size d) {ls : Path} {k : Nat} (hl : ls.length = (k + 1) * size) (hm : ls ∈ d.paths) : begD size d.under ls = (List.range (k + 1)).map fun j => ls.take ((j + 1) * size) := by
  unfold begD
  rw [hl, Nat.mul_div_cancel _ h.pos]
  refine takeWhile_all fun p hp => ?_
  obtain ⟨j, hj, rfl⟩ := List.mem_map.mp hp
  have hj := List.mem_range.mp hj
  exact (h.dom _).mpr (h.beg k hm hl j (by omega))
theorem TreeOk.add {size : Nat} {d : TreeD} (h : TreeOk size d) {ls : Path} {b k : Nat} (hl : ls.length = (k + 1) * size) (hn : newP size d ls = true) : TreeOk size ({ d.add ls b with used := fun p => if p = ls then some 0 else d.used p }) := by
  unfold newP at hn
  rw [Bool.and_eq_true, Bool.or_eq_true, decide_eq_true_eq, Option.isNone_iff_eq_none] at hn
  obtain ⟨hn, ha⟩ := hn
  have hnm : ls ∉ d.paths := fun m => by
    have := (h.dom ls).mpr m
    rw [hn] at this; cases this
  have mem : ∀ p, p ∈ sortP (d.paths ++ [ls]) ↔ p ∈ d.paths ∨ p = ls := fun p => by rw [mem_sortP, List.mem_append, List.mem_singleton]
  refine ⟨h.pos, sortP_asc _, ?_, fun p => ?_, fun p => ?_, fun p hp => ?_, fun p hp => ?_⟩
  · refine sortP_nodup.mpr (List.nodup_append.mpr ⟨h.nod, List.nodup_cons.mpr ⟨List.not_mem_nil, List.nodup_nil⟩, fun a ha c hc => ?_⟩)
    rw [List.mem_singleton.mp hc]
    intro e
    rw [e] at ha
    exact hnm ha
  · rw [show p ∈ ({ d.add ls b with used := fun p => if p = ls then some 0 else d.used p } : TreeD).paths ↔ p ∈ d.paths ∨ p = ls from mem p]
    show ((if p = ls then some b else d.under p)).isSome = true ↔ _
    by_cases e : p = ls
    · rw [if_pos e]; exact ⟨fun _ => .inr e, fun _ => rfl⟩
    · rw [if_neg e, h.dom p]; exact ⟨.inl, fun q => q.resolve_right e⟩
  · rw [show p ∈ ({ d.add ls b with used := fun p => if p = ls then some 0 else d.used p } : TreeD).paths ↔ p ∈ d.paths ∨ p = ls from mem p]
    show ((if p = ls then some 0 else d.used p)).isSome = true ↔ _
    by_cases e : p = ls
    · rw [if_pos e]; exact ⟨fun _ => .inr e, fun _ => rfl⟩
    · rw [if_neg e, h.udom p]; exact ⟨.inl, fun q => q.resolve_right e⟩
  · rcases (mem p).mp hp with q | q
    · exact h.shape p q
    · rw [q]; exact ⟨k, hl⟩
  · rcases (mem p).mp hp with q | q
    · rcases h.pre p q with r | r
      · exact .inl r
      · exact .inr ((mem _).mpr (.inl r))
    · rw [q]
      rcases ha with r | r
      · exact .inl r
      · exact .inr ((mem _).mpr (.inl ((h.dom _).mp r)))
theorem use_use (d : TreeD) (u' : Path → Option Nat) (ps : List Path) (h : ∀ p, p ∉ ps → d.used p = u' p) : d.use ps = ({ d with used := u' } : TreeD).use ps := by
  unfold TreeD.use useF
  simp only [TreeD.mk.injEq, true_and, and_true]
  funext p
  by_cases e : p ∈ ps
  · rw [if_pos e, if_pos e]
  · rw [if_neg e, if_neg e]; exact h p e
theorem TreeOk.put {size : Nat} {d : TreeD} (h : TreeOk size d) {ls : Path} {b k : Nat} (hl : ls.length = (k + 1) * size) : TreeOk size (d.put size ls b) := by
  unfold TreeD.put
  by_cases hn : newP size d ls = true
  · rw [if_pos hn]
    have h1 := h.add (b := b) hl hn
    have hm : ls ∈ begD size (d.add ls b).under ls := by
      have e := begD_all h1 hl (show ls ∈ sortP (d.paths ++ [ls]) from mem_sortP.mpr (List.mem_append.mpr (.inr (List.mem_singleton.mpr rfl))))
      have e : begD size (d.add ls b).under ls = _ := e
      rw [e]
      exact List.mem_map.mpr ⟨k, List.mem_range.mpr (by omega), by rw [← hl, List.take_length]⟩
    rw [use_use (d.add ls b) (fun p => if p = ls then some 0 else d.used p) _ fun p hp => ?_]
    · exact h1.use fun p hp => h1.begs ls p hp
    · rw [if_neg (fun e => hp (by rw [e]; exact hm))]; rfl
  · rw [if_neg hn]
    exact h.use (h.begs ls)
def TreeD.nil : TreeD := ⟨[], fun _ => none, fun _ => none, 0⟩
theorem TreeOk.nil {size : Nat} (h : 1 ≤ size) : TreeOk size TreeD.nil := ⟨h, List.Pairwise.nil, List.nodup_nil, fun p => by simp [TreeD.nil], fun p => by simp [TreeD.nil], fun p hp => (by cases hp), fun p hp => (by cases hp)⟩

/-! ### a path dropped, in plain data -/
def endsP (size : Nat) (ps : List Path) : List Path := ps.filter fun p => decide (p ∉ ps.map (aheadP size))
def aloneP (d : TreeD) (cs : List Int) (p : Path) : Bool := decide (nth cs ((((d.under p).getD 0 : Nat)) : Int) = 1)
def goesP (size : Nat) (d : TreeD) (cs : List Int) : List Path := (endsP size d.paths).filter (aloneP d cs)
def oldS (u : Path → Option Nat) (o p : Path) : Path := if (u p).getD 0 < (u o).getD 0 then p else o
def best1 (u : Path → Option Nat) (o : Option Path) (p : Path) : Option Path := match o with
  | none => some p
  | some o => some (oldS u o p)
def dropP (size : Nat) (d : TreeD) (cs : List Int) : Option Path := (goesP size d cs).foldl (best1 d.used) none
def TreeD.del (d : TreeD) (x : Path) : TreeD := { d with paths := d.paths.filter fun p => decide (p ≠ x), under := fun p => if p = x then none else d.under p, used := fun p => if p = x then none else d.used p }
theorem oldS_self (u : Path → Option Nat) (p : Path) : oldS u p p = p := by unfold oldS; split <;> rfl
theorem best1_some (u : Path → Option Nat) : ∀ (ps : List Path) (o : Path), ps.foldl (best1 u) (some o) = some (ps.foldl (oldS u) o)
  | [], _ => rfl
  | p :: ps, o => best1_some u ps (oldS u o p)
theorem oldS_mem (u : Path → Option Nat) : ∀ (ps : List Path) (o : Path), ps.foldl (oldS u) o = o ∨ ps.foldl (oldS u) o ∈ ps
  | [], _ => .inl rfl
  | p :: ps, o => by
    rw [List.foldl_cons]
    rcases oldS_mem u ps (oldS u o p) with h | h
    · rw [h]
      unfold oldS
      split
      · exact .inr List.mem_cons_self
      · exact .inl rfl
    · exact .inr (List.mem_cons_of_mem _ h)
theorem best_cons (u : Path → Option Nat) (p : Path) (ps : List Path) : (p :: ps).foldl (best1 u) none = some ((p :: ps).foldl (oldS u) p) := by
  rw [List.foldl_cons, List.foldl_cons, oldS_self]
  exact best1_some u ps p
theorem dropP_none {size : Nat} {d : TreeD} {cs : List Int} (h : goesP size d cs = []) : dropP size d cs = none := by
  unfold dropP
  rw [h]; rfl
theorem dropP_cons {size : Nat} {d : TreeD} {cs : List Int} {p : Path} {ps : List Path} (h : goesP size d cs = p :: ps) : dropP size d cs = some ((p :: ps).foldl (oldS d.used) p) := by
  unfold dropP
  rw [h]
  exact best_cons _ _ _
theorem old_mem (u : Path → Option Nat) (p : Path) (ps : List Path) : (p :: ps).foldl (oldS u) p ∈ p :: ps := by
  rcases oldS_mem u (p :: ps) p with h | h
  · rw [h]; exact List.mem_cons_self
  · exact h
theorem dropP_mem {size : Nat} {d : TreeD} {cs : List Int} {x : Path} (h : dropP size d cs = some x) : x ∈ goesP size d cs := by
  cases hg : goesP size d cs with
  | nil => rw [dropP_none hg] at h; cases h
  | cons p ps =>
    rw [dropP_cons hg] at h
    cases h
    exact old_mem _ _ _
theorem goesP_mem {size : Nat} {d : TreeD} {cs : List Int} {x : Path} (h : x ∈ goesP size d cs) : x ∈ d.paths ∧ x ∉ d.paths.map (aheadP size) ∧ nth cs ((((d.under x).getD 0 : Nat)) : Int) = 1 := by
  obtain ⟨h1, h2⟩ := List.mem_filter.mp h
  obtain ⟨h3, h4⟩ := List.mem_filter.mp h1
  exact ⟨h3, of_decide_eq_true h4, of_decide_eq_true h2⟩
/-- the law's own reckoning, path by path -/
def goodP (size : Nat) (d : TreeD) (cs : List Int) (p : Path) : Bool := decide (p ∉ d.paths.map (aheadP size)) && aloneP d cs p
def lawS (size : Nat) (d : TreeD) (cs : List Int) (o : Option Path) (p : Path) : Option Path := if goodP size d cs p = true then best1 d.used o p else o
theorem dropP_law (size : Nat) (d : TreeD) (cs : List Int) : d.paths.foldl (lawS size d cs) none = dropP size d cs := by
  unfold dropP goesP endsP
  rw [List.filter_filter, List.foldl_filter]
  refine congrArg (fun f => d.paths.foldl f none) ?_
  funext o p
  unfold lawS goodP
  rw [Bool.and_comm]
theorem longer_iff {size : Nat} {d : TreeD} (ok : TreeOk size d) {p : Path} (hp : p ∈ d.paths) : (∃ q ∈ d.paths, p.length < q.length ∧ q.take p.length = p) ↔ p ∈ d.paths.map (aheadP size) := by
  have hs := ok.pos
  obtain ⟨k, hk⟩ := ok.shape p hp
  refine ⟨fun ⟨q, hq, h1, h2⟩ => ?_, fun m => ?_⟩
  · obtain ⟨n, hn⟩ := ok.shape q hq
    have hkn : k + 1 ≤ n := by
      have : (k + 1) * size < (n + 1) * size := by omega
      have := Nat.lt_of_mul_lt_mul_right this
      omega
    have r := ok.beg n hq hn (k + 1) hkn
    refine List.mem_map.mpr ⟨_, r, ?_⟩
    unfold aheadP
    have hle : (k + 1 + 1) * size ≤ (n + 1) * size := Nat.mul_le_mul_right _ (by omega)
    have hl : (q.take ((k + 1 + 1) * size)).length = (k + 1 + 1) * size := by rw [List.length_take]; omega
    have e2 : (k + 1 + 1) * size = (k + 1) * size + size := by rw [Nat.add_mul (k + 1), Nat.one_mul]
    rw [hl, take_take_le (by omega), show (k + 1 + 1) * size - size = p.length by omega, h2]
  · obtain ⟨q, hq, e⟩ := List.mem_map.mp m
    obtain ⟨n, hn⟩ := ok.shape q hq
    have e2 : (n + 1) * size = n * size + size := by rw [Nat.add_mul, Nat.one_mul]
    have hl : p.length = q.length - size := by
      rw [← e]
      unfold aheadP
      rw [List.length_take]
      omega
    refine ⟨q, hq, by omega, ?_⟩
    rw [hl]
    exact e
theorem TreeOk.del {size : Nat} {d : TreeD} (h : TreeOk size d) {x : Path} (hn : x ∉ d.paths.map (aheadP size)) : TreeOk size (d.del x) := by
  have mem : ∀ p, p ∈ (d.del x).paths ↔ p ∈ d.paths ∧ p ≠ x := fun p => by
    show p ∈ d.paths.filter _ ↔ _
    rw [List.mem_filter, decide_eq_true_eq]
  refine ⟨h.pos, h.asc.filter _, h.nod.filter _, fun p => ?_, fun p => ?_, fun p hp => h.shape p ((mem p).mp hp).1, fun p hp => ?_⟩
  · rw [mem]
    show (if p = x then none else d.under p).isSome = true ↔ _
    by_cases e : p = x
    · rw [if_pos e]; exact ⟨fun z => (by cases z), fun z => absurd e z.2⟩
    · rw [if_neg e, h.dom p]; exact ⟨fun z => ⟨z, e⟩, fun z => z.1⟩
  · rw [mem]
    show (if p = x then none else d.used p).isSome = true ↔ _
    by_cases e : p = x
    · rw [if_pos e]; exact ⟨fun z => (by cases z), fun z => absurd e z.2⟩
    · rw [if_neg e, h.udom p]; exact ⟨fun z => ⟨z, e⟩, fun z => z.1⟩
  · have hp := (mem p).mp hp
    rcases h.pre p hp.1 with q | q
    · exact .inl q
    · exact .inr ((mem _).mpr ⟨q, fun z => hn (List.mem_map.mpr ⟨p, hp.1, z⟩)⟩)
theorem del_len {size : Nat} {d : TreeD} (h : TreeOk size d) {x : Path} (hx : x ∈ d.paths) : (d.del x).paths.length + 1 = d.paths.length := by
  have e : (d.del x).paths = d.paths.erase x := by
    show d.paths.filter _ = _
    rw [h.nod.erase_eq_filter]
    refine List.filter_congr fun p _ => ?_
    by_cases e : p = x
    · subst e; simp
    · simp [e]
  rw [e, List.length_erase_of_mem hx]
  have := List.length_pos_of_mem hx
  omega
theorem lawS_mem (size : Nat) (d : TreeD) (cs : List Int) : ∀ (ps : List Path) (o : Option Path) (x : Path), ps.foldl (lawS size d cs) o = some x → x ∈ ps ∨ o = some x
  | [], _, _, h => .inr h
  | p :: ps, o, x, h => by
    rw [List.foldl_cons] at h
    rcases lawS_mem size d cs ps _ x h with m | m
    · exact .inl (List.mem_cons_of_mem _ m)
    · unfold lawS at m
      split at m
      · unfold best1 at m
        split at m
        · cases m; exact .inl List.mem_cons_self
        · unfold oldS at m
          split at m
          · cases m; exact .inl List.mem_cons_self
          · exact .inr m
      · exact .inr m

/-! ### the pool: numbers drawn from behind -/
def IsPool (H : Hp) (p : Addr) : Prop := ∃ ns : List Int, H p = some (.lst (ns.map V.int)) ∧ ∀ x ∈ ns, (0 : Int) ≤ x
def sp_L_draw (K : PySem.W.Frag) : Sp := fun vs H Q _ => ∃ (p : Addr) (m : Int), vs = [.ref p, .int m] ∧ IsPool H p ∧ 0 < m ∧ ∀ (r : Int) H', 0 ≤ r → r < m → Fr p H H' → IsPool H' p → Q (.int r) H'
theorem ok_L_draw (T : Txt K mg) : FnOk P w K mg base CX0 1 T.a_L_draw T.d_L_draw ["_law_pool_here", "_law_many"] (sp_L_draw K) := by
  refine T.F_L_draw.ok sc_L_draw (fun vs H Q E h => ?_) (fun cdv A outer s H vs Q E hr h => ?_)
  · obtain ⟨_, _, rfl, _⟩ := h
    rfl
  · obtain ⟨p, m, rfl, ⟨ns, hp, hns⟩, hm, k⟩ := h
    refine ⟨_, (pss_cons (ps_if (pt_cmpR (k_eqG (K := K) rfl hr.units) (pe_callB (k_lenS (K := K) rfl) (by rfl) T.z_len (by decide +kernel) (pa_cons (pv 0) pa_nil)) pe_int (nomark _)) (pss_one (ps_ret pe_int)) pss_nil)
      (pss_one (ps_ret (pe_op op_mod (pe_callTy cr_int1 (by rfl) T.z_int (by decide +kernel) (pa_cons (k_bm0 (K := K) rfl PySem.F.plainAttrs_list PySem.F.slot_list_pop PySem.F.type_list_pop mt_pop (pv 0)) pa_nil)) (pv 1))))), ?_⟩
    refine go_start (σ' := [some (.ref p), some (.int m)]) rfl ?_
    try dsimp only [cxOf, Cx.nox, Cx.wish]
    walk_at "go"
    refine w_iteD (fun h0 => ?_) (fun h0 => ?_)
    · walk_at "go"
      exact k 0 _ (Int.le_refl _) hm (Fr.refl _ _) ⟨ns, hp, hns⟩
    · walk_at "go"
      refine w_bm0 ?_
      walk_at "go"
      refine w_pop hp (by omega) ?_
      walk_at "go"
      exact k _ _ (Int.emod_nonneg _ (by omega)) (Int.emod_lt_of_pos _ hm) ((Fr.refl _ _).upd _) ⟨ns.dropLast, upd_same, fun x hx => hns x (List.dropLast_subset ns hx)⟩
def sp_L_pool (K : PySem.W.Frag) : Sp := fun vs H Q _ => ∃ (a : Addr) (cs : List Int) (n : Int), vs = [.ref a, .int n] ∧ Sq true K H a (cs.map V.int) ∧ cs.length ≤ 63 ∧ 0 ≤ n ∧ n ≤ 10000 ∧ ∀ p H', H p = none → Same H H' → IsPool H' p → Q (.ref p) H'
theorem ok_L_pool (T : Txt K mg) : FnOk P w K mg base CX0 1 T.a_L_pool T.d_L_pool ["_law_script", "_law_many"] (sp_L_pool K) := by
  refine T.F_L_pool.ok sc_L_pool (fun vs H Q E h => ?_) (fun cdv A outer s H vs Q E hr h => ?_)
  · obtain ⟨_, _, _, rfl, _⟩ := h
    rfl
  · obtain ⟨a, cs, n, rfl, hS, hcl, hn0, hn1, k⟩ := h
    refine ⟨_, (pss_cons (ps_set (i := 2) sc_L_pool.nd rfl (Or.inl rfl) (pe_lst pa_nil))
      (pss_cons (ps_set (i := 3) sc_L_pool.nd rfl (Or.inl rfl) pe_int)
      (pss_cons (ps_for PassesOwn.never rfl (k_seqS (K := K) rfl (pv 0)) (pg_name (i := 4) sc_L_pool.nd rfl (Or.inl rfl))
      (pss_cons (ps_set (i := 5) sc_L_pool.nd rfl (Or.inl rfl) (pe_callTy cr_int1 (by rfl) T.z_int (by decide +kernel) (pa_cons (pe_callB cr_abs (by rfl) T.z_abs (by decide +kernel) (pa_cons (pv 4) pa_nil)) pa_nil)))
      (Evl.pss_cut (ps_if (pt_cmpR op_ge (pv 5) (pe_op op_pow pe_int pe_int) (nomark _)) (pss_one (ps_for PassesOwn.never rfl (pi_range1 rfl T.z_range (pa_cons (pe_callB (cr_min2 rfl) (by rfl) T.z_min (by decide +kernel) (pa_cons pe_int (pa_cons (pe_op op_sub (pv 1) (pe_callB (k_lenS (K := K) rfl) (by rfl) T.z_len (by decide +kernel) (pa_cons (pv 2) pa_nil))) pa_nil))) pa_nil)) (pg_name (i := 6) sc_L_pool.nd rfl (Or.inl rfl))
      (pss_cons (ps_expr (k_bm (K := K) rfl PySem.F.plainAttrs_list PySem.F.slot_list_append PySem.F.type_list_append mt_append (pv 2) (pa_cons (pe_op op_mod (pe_callTy cr_int1 (by rfl) T.z_int (by decide +kernel) (pa_cons (pv 5) pa_nil)) pe_int) pa_nil)))
      (pss_cons (ps_set (i := 5) sc_L_pool.nd rfl (Or.inl rfl) (pe_op op_fdiv (pv 5) pe_int))
      (pss_one (ps_if (pt_cmpR (k_eqG (K := K) rfl hr.units) (pv 5) pe_int (nomark _)) (pss_one ps_break) pss_nil)))))) (pss_cons (ps_set (i := 7) sc_L_pool.nd rfl (Or.inl rfl) (pe_op op_mod (pe_callTy cr_int1 (by rfl) T.z_int (by decide +kernel) (pa_cons (pe_op (k_addG (K := K) rfl) (pe_op (k_addG (K := K) rfl) (pe_op op_mul (pv 4) pe_int) (pe_op op_mul (pe_callB (k_lenS (K := K) rfl) (by rfl) T.z_len (by decide +kernel) (pa_cons (pv 2) pa_nil)) pe_int)) pe_int) pa_nil)) pe_int))
      (pss_cons (ps_set (i := 8) sc_L_pool.nd rfl (Or.inl rfl) (pe_op op_mod (pe_callTy cr_int1 (by rfl) T.z_int (by decide +kernel) (pa_cons (pe_op (k_addG (K := K) rfl) (pe_op op_mul (pv 7) (pv 7)) pe_int) pa_nil)) pe_int))
      (pss_cons (ps_expr (k_bm (K := K) rfl PySem.F.plainAttrs_list PySem.F.slot_list_append PySem.F.type_list_append mt_append (pv 2) (pa_cons (pe_op op_mod (pe_callTy cr_int1 (by rfl) T.z_int (by decide +kernel) (pa_cons (pe_op op_fdiv (pv 8) pe_int) pa_nil)) pe_int) pa_nil)))
      (pss_one (ps_expr (k_bm (K := K) rfl PySem.F.plainAttrs_list PySem.F.slot_list_append PySem.F.type_list_append mt_append (pv 2) (pa_cons (pe_op op_mod (pe_op op_mod (pe_callTy cr_int1 (by rfl) T.z_int (by decide +kernel) (pa_cons (pe_op (k_addG (K := K) rfl) (pe_op op_mul (pv 8) pe_int) (pv 7)) pa_nil)) pe_int) pe_int) pa_nil))))))))
      (pss_one (ps_set (i := 3) sc_L_pool.nd rfl (Or.inl rfl) (pe_op op_mod (pe_callTy cr_int1 (by rfl) T.z_int (by decide +kernel) (pa_cons (pe_op (k_addG (K := K) rfl) (pe_op op_mul (pv 3) pe_int) (pv 4)) pa_nil)) pe_int))))))
      (pss_cons (ps_for PassesOwn.never rfl (pi_range1 rfl T.z_range (pa_cons (pv 1) pa_nil)) (pg_name (i := 6) sc_L_pool.nd rfl (Or.inl rfl))
      (pss_cons (ps_set (i := 3) sc_L_pool.nd rfl (Or.inl rfl) (pe_op op_mod (pe_callTy cr_int1 (by rfl) T.z_int (by decide +kernel) (pa_cons (pe_op (k_addG (K := K) rfl) (pe_op (k_addG (K := K) rfl) (pe_op op_mul (pv 3) pe_int) (pe_op op_mul (pv 6) pe_int)) pe_int) pa_nil)) pe_int))
      (pss_one (ps_expr (k_bm (K := K) rfl PySem.F.plainAttrs_list PySem.F.slot_list_append PySem.F.type_list_append mt_append (pv 2) (pa_cons (pe_op op_mod (pe_callTy cr_int1 (by rfl) T.z_int (by decide +kernel) (pa_cons (pe_op op_fdiv (pv 3) pe_int) pa_nil)) pe_int) pa_nil))))))
      (pss_cons (ps_set (i := 2) sc_L_pool.nd rfl (Or.inl rfl) (pe_slice (k_slG (K := K) rfl) (pv 2) po_none (po_some (pv 1))))
      (pss_cons (ps_expr (k_bm0 (K := K) rfl PySem.F.plainAttrs_list PySem.F.slot_list_reverse PySem.F.type_list_reverse mt_reverse (pv 2)))
      (pss_one (ps_ret (pv 2))))))))), ?_⟩
    refine go_start (σ' := [some (.ref a), some (.int n), none, none, none, none, none, none, none]) rfl ?_
    try dsimp only [cxOf, Cx.nox, Cx.wish]
    walk_at "go"
    refine ⟨Nat.zero_le _, fun p hp => ?_⟩
    have s1 := Same.new (o := .lst []) hp
    have e1 : (upd H p (.lst [])) p = some (.lst (([] : List Int).map V.int)) := upd_same
    generalize upd H p (.lst []) = H1 at s1 e1 ⊢
    have hS1 := s1.sq hS
    walk_at "go"
    refine l_seq (b := true) (cs.map V.int) (fun i σ H' => ∃ (tot : Int) (y4 y5 y6 y7 y8 : Option V) (ns : List Int), σ = [some (.ref a), some (.int n), some (.ref p), some (.int tot), y4, y5, y6, y7, y8] ∧ 0 ≤ tot ∧ tot < 1000003 ∧ ns.length ≤ 60 * i ∧ (∀ x ∈ ns, (0 : Int) ≤ x) ∧ Same H H' ∧ H' p = some (.lst (ns.map V.int))) hS1 ⟨1, none, none, none, none, none, [], rfl, by omega, by omega, Nat.zero_le _, List.forall_mem_nil _, s1, e1⟩ (fun i σ H' _ ⟨_, _, _, _, _, _, _, _, _, _, _, _, s, _⟩ => s.sq hS) ?_ ?_
    · rintro i x σ H2 hi hx ⟨tot, y4, y5, y6, y7, y8, ns, rfl, ht0, ht1, hnl, hnn, s2, e2⟩
      obtain ⟨rfl, hi1⟩ := vec_at hx
      generalize nth cs ((i : Nat) : Int) = c
      rw [List.length_map] at hi
      walk_at "go"
      refine w_cut (fun σ H' => ∃ (y5 y6 y7 y8 : Option V) (ns : List Int), σ = [some (.ref a), some (.int n), some (.ref p), some (.int tot), some (.int c), y5, y6, y7, y8] ∧ ns.length ≤ 60 * (i + 1) ∧ (∀ x ∈ ns, (0 : Int) ≤ x) ∧ Same H H' ∧ H' p = some (.lst (ns.map V.int))) ?_ ?_
      · walk_at "go"
        refine w_iteD (fun _ => ?_) (fun _ => ?_)
        · walk_at "go"
          have hmn : -(2 ^ 62) ≤ (if n - (ns.length : Int) < 60 then n - (ns.length : Int) else 60) ∧ (if n - (ns.length : Int) < 60 then n - (ns.length : Int) else 60) ≤ 60 := by
            have h : 60 * i ≤ 60 * 63 := Nat.mul_le_mul (Nat.le_refl _) (by omega)
            split <;> omega
          generalize (if n - (ns.length : Int) < 60 then n - (ns.length : Int) else 60) = mn at hmn ⊢
          refine l_range (fun j σ H' => ∃ (rest : Int) (y6 : Option V) (ms : List Int), σ = [some (.ref a), some (.int n), some (.ref p), some (.int tot), some (.int c), some (.int rest), y6, y7, y8] ∧ ms.length ≤ 60 * i + j ∧ (∀ x ∈ ms, (0 : Int) ≤ x) ∧ Same H H' ∧ H' p = some (.lst (ms.map V.int)))
            (by omega) (by omega) ⟨_, _, ns, rfl, by omega, hnn, s2, e2⟩ ?_ ?_
          · rintro j σ H3 hj ⟨rest, y6, ms, rfl, hml, hmm, s3, e3⟩
            have h : 60 * i ≤ 60 * 63 := Nat.mul_le_mul (Nat.le_refl _) (by omega)
            walk_at "go"
            refine w_append e3 (line_of1 (by rw [List.length_map]; omega)) ?_
            have e4 : (upd H3 p (.lst (ms.map V.int ++ [.int (rest % 2520)]))) p = some (.lst ((ms ++ [rest % 2520]).map V.int)) := by rw [upd_same, List.map_append]; rfl
            have s4 := Same.mut (o := .lst (ms.map V.int ++ [.int (rest % 2520)])) s3 hp
            have hmm4 : ∀ x ∈ ms ++ [rest % 2520], (0 : Int) ≤ x := fun x hx => by
              rcases List.mem_append.mp hx with h | h
              · exact hmm x h
              · rw [List.mem_singleton.mp h]; omega
            have hml4 : (ms ++ [rest % 2520]).length = ms.length + 1 := by rw [List.length_append]; rfl
            generalize upd H3 p (.lst (ms.map V.int ++ [.int (rest % 2520)])) = H4 at e4 s4 ⊢
            walk_at "go"
            refine w_iteD (fun _ => ?_) (fun _ => ?_)
            · walk_at "go"
              exact ⟨_, _, _, _, ms ++ [rest % 2520], rfl, by omega, hmm4, s4, e4⟩
            · walk_at "go"
              exact ⟨_, _, ms ++ [rest % 2520], rfl, by omega, hmm4, s4, e4⟩
          · rintro σ H3 ⟨rest, y6, ms, rfl, hml, hmm, s3, e3⟩
            walk_at "go"
            exact ⟨_, _, _, _, ms, rfl, by omega, hmm, s3, e3⟩
        · walk_at "go"
          have h : 60 * i ≤ 60 * 63 := Nat.mul_le_mul (Nat.le_refl _) (by omega)
          refine w_append e2 (line_of1 (by rw [List.length_map]; omega)) ?_
          generalize ((c * 48271 + (ns.length : Int) * 69621 + 11) % 2147483647 * ((c * 48271 + (ns.length : Int) * 69621 + 11) % 2147483647) + 5) % 2147483629 = sec
          have e4 : (upd H2 p (.lst (ns.map V.int ++ [.int (sec / 7 % 2520)]))) p = some (.lst ((ns ++ [sec / 7 % 2520]).map V.int)) := by rw [upd_same, List.map_append]; rfl
          have s4 := Same.mut (o := .lst (ns.map V.int ++ [.int (sec / 7 % 2520)])) s2 hp
          generalize upd H2 p (.lst (ns.map V.int ++ [.int (sec / 7 % 2520)])) = H4 at e4 s4 ⊢
          walk_at "go"
          refine w_append e4 (line_of1 (by rw [List.length_map, List.length_append]; show ns.length + 1 ≤ _; omega)) ?_
          walk_at "go"
          refine ⟨_, _, _, _, (ns ++ [sec / 7 % 2520]) ++ [_], rfl, by rw [List.length_append, List.length_append]; show ns.length + 1 + 1 ≤ _; omega, fun x hx => ?_, Same.mut s4 hp, by rw [upd_same, List.map_append (l₁ := ns ++ [sec / 7 % 2520])]; rfl⟩
          rcases List.mem_append.mp hx with h | h
          · rcases List.mem_append.mp h with h | h
            · exact hnn x h
            · rw [List.mem_singleton.mp h]; omega
          · rw [List.mem_singleton.mp h]; omega
      · rintro σ H3 ⟨y5, y6, y7, y8, ns, rfl, hnl, hnn, s3, e3⟩
        walk_at "go"
        exact ⟨_, _, _, _, _, _, ns, rfl, by omega, by omega, hnl, hnn, s3, e3⟩
    · rintro σ H2 ⟨tot, y4, y5, y6, y7, y8, ns, rfl, ht0, ht1, hnl, hnn, s2, e2⟩
      rw [List.length_map] at hnl
      walk_at "go"
      refine l_range (fun j σ H' => ∃ (tot : Int) (y6 : Option V) (ms : List Int), σ = [some (.ref a), some (.int n), some (.ref p), some (.int tot), y4, y5, y6, y7, y8] ∧ 0 ≤ tot ∧ tot < 2147483647 ∧ ms.length ≤ 4000 + j ∧ (∀ x ∈ ms, (0 : Int) ≤ x) ∧ Same H H' ∧ H' p = some (.lst (ms.map V.int)))
        (by omega) (by omega) ⟨_, _, ns, rfl, ht0, by omega, by omega, hnn, s2, e2⟩ ?_ ?_
      · rintro j σ H3 hj ⟨tot, y6, ms, rfl, h0, h1, hml, hmm, s3, e3⟩
        walk_at "go"
        refine w_append e3 (line_of1 (by rw [List.length_map]; omega)) ?_
        walk_at "go"
        refine ⟨_, _, ms ++ [_], rfl, by omega, by omega, by rw [List.length_append]; show ms.length + 1 ≤ _; omega, fun x hx => ?_, Same.mut s3 hp, by rw [upd_same, List.map_append]; rfl⟩
        rcases List.mem_append.mp hx with h | h
        · exact hmm x h
        · rw [List.mem_singleton.mp h]; omega
      · rintro σ H3 ⟨tot, y6, ms, rfl, h0, h1, hml, hmm, s3, e3⟩
        walk_at "go"
        refine w_slTo (ns := ms) (Sq.lst e3) hn0 fun q hq => ?_
        have s4 := s3.trans (Same.new (o := .lst ((ms.take n.toNat).map V.int)) hq)
        walk_at "go"
        refine w_bm0 ?_
        walk_at "go"
        refine w_reverse upd_same ?_
        walk_at "go"
        have hq0 : H q = none := by
          cases e : H q with
          | none => rfl
          | some u => rw [s3 _ _ e] at hq; cases hq
        exact k q _ hq0 (Same.mut s4 hq0) ⟨_, upd_same, fun x hx => hmm x (List.mem_of_mem_take (List.mem_reverse.mp hx))⟩

/-! ### stores with the rows in their blocks -/
def StoreF (many size : Int) (ac ak : Addr) : List (Str × V) := [("many", .int many), ("size", .int size), ("counts", .ref ac), ("kept", .ref ak)]
def KeptV (K : PySem.W.Frag) (H : Hp) (ak : Addr) (kv : List (List V)) : Prop := ∃ ks, H ak = some (.lst ks) ∧ ks.length = kv.length ∧ ∀ (i : Nat) y xs, ks[i]? = some y → kv[i]? = some xs → ∃ p, y = .ref p ∧ Sq false K H p xs
def IsStoreV (K : PySem.W.Frag) (C : Addr) (H : Hp) (s ac ak : Addr) (size : Int) (cs : List Int) (kv : List (List V)) : Prop := ∃ dx, H s = some (.ins C dx (StoreF cs.length size ac ak)) ∧ H ac = some (.lst (cs.map V.int)) ∧ KeptV K H ak kv ∧ ac ≠ ak
structure SOk (sz : Int) (cs : List Int) (kv : List (List V)) : Prop where
  len : kv.length = cs.length
  many : 1 ≤ cs.length ∧ cs.length ≤ 60
  size : 1 ≤ sz ∧ sz ≤ 8
  pos : ∀ c ∈ cs, (0 : Int) ≤ c
  empty : ∀ b : Nat, nth cs ((b : Nat) : Int) = 0 → kv.getD b [] = []
  full : ∀ xs ∈ kv, (xs.length : Int) ≤ sz
theorem nth_get {cs : List Int} {j : Nat} (h : j < cs.length) : nth cs ((j : Nat) : Int) = cs[j] := by
  rw [nth_nat, List.getD_eq_getElem?_getD, List.getElem?_eq_getElem h]; rfl
theorem nth_toNat {cs : List Int} {i : Int} (h : 0 ≤ i) : nth cs ((i.toNat : Nat) : Int) = nth cs i := by rw [Int.toNat_of_nonneg h]
theorem nthS {ns : List Int} {i j : Nat} {z : Int} (hi : i < ns.length) : nth (ns.set i z) ((j : Nat) : Int) = if j = i then z else nth ns ((j : Nat) : Int) := by
  rw [nth_nat, nth_nat, List.getD_eq_getElem?_getD, List.getD_eq_getElem?_getD, List.getElem?_set]
  by_cases h : i = j
  · subst h
    rw [if_pos rfl, if_pos hi, if_pos rfl]; rfl
  · rw [if_neg h, if_neg (fun e => h e.symm)]
theorem getDS {α : Type} {kv : List (List α)} {i j : Nat} {z : List α} (hi : i < kv.length) : (kv.set i z).getD j [] = if j = i then z else kv.getD j [] := by
  rw [List.getD_eq_getElem?_getD, List.getD_eq_getElem?_getD, List.getElem?_set]
  by_cases h : i = j
  · subst h
    rw [if_pos rfl, if_pos hi, if_pos rfl]; rfl
  · rw [if_neg h, if_neg (fun e => h e.symm)]
theorem KeptV.same {K : PySem.W.Frag} {H H' : Hp} {ak : Addr} {kv : List (List V)} (s : Same H H') (h : KeptV K H ak kv) : KeptV K H' ak kv := by
  obtain ⟨ks, h1, h2, h3⟩ := h
  exact ⟨ks, s _ _ h1, h2, fun i y n a b => by
    obtain ⟨p, e, hp⟩ := h3 i y n a b
    exact ⟨p, e, s.sq hp⟩⟩
theorem storeV_same {K : PySem.W.Frag} {C : Addr} {H H' : Hp} {s ac ak : Addr} {size : Int} {cs : List Int} {kv : List (List V)} (sm : Same H H') (h : IsStoreV K C H s ac ak size cs kv) : IsStoreV K C H' s ac ak size cs kv := by
  obtain ⟨dx, h1, h2, h3, h4⟩ := h
  exact ⟨dx, sm _ _ h1, sm _ _ h2, h3.same sm, h4⟩
/-- another list changed -/
theorem storeV_updL {K : PySem.W.Frag} {C : Addr} {H : Hp} {s ac ak q : Addr} {size : Int} {cs : List Int} {kv : List (List V)} {xs : List V} {o : HO} (hq : H q = some (.lst xs)) (n1 : q ≠ ac) (n2 : q ≠ ak) (h : IsStoreV K C H s ac ak size cs kv) : IsStoreV K C (upd H q o) s ac ak size cs kv := by
  obtain ⟨dx, h1, h2, ⟨ks, g1, g2, g3⟩, h4⟩ := h
  refine ⟨dx, (upd_ne (fun e => by rw [e, hq] at h1; cases h1)).trans h1, (upd_ne (Ne.symm n1)).trans h2, ⟨ks, (upd_ne (Ne.symm n2)).trans g1, g2, fun i y n a b => ?_⟩, h4⟩
  obtain ⟨p, e, hp⟩ := g3 i y n a b
  exact ⟨p, e, sqU hq hp⟩
/-- an object with fields changed that is not the store -/
theorem storeV_updI {K : PySem.W.Frag} {C : Addr} {H : Hp} {s ac ak q : Addr} {size : Int} {cs : List Int} {kv : List (List V)} {Cq dq : Addr} {fs : List (Str × V)} {o : HO} (hq : H q = some (.ins Cq dq fs)) (n1 : q ≠ s) (h : IsStoreV K C H s ac ak size cs kv) : IsStoreV K C (upd H q o) s ac ak size cs kv := by
  obtain ⟨dx, h1, h2, ⟨ks, g1, g2, g3⟩, h4⟩ := h
  refine ⟨dx, (upd_ne (Ne.symm n1)).trans h1, (upd_ne (fun e => by rw [e, hq] at h2; cases h2)).trans h2, ⟨ks, (upd_ne (fun e => by rw [e, hq] at g1; cases g1)).trans g1, g2, fun i y n a b => ?_⟩, h4⟩
  obtain ⟨p, e, hp⟩ := g3 i y n a b
  exact ⟨p, e, (((Fr.refl q H).upd o).sqI ⟨_, _, _, hq⟩ hp)⟩
/-- the counts stored anew -/
theorem storeV_counts {K : PySem.W.Frag} {C : Addr} {H : Hp} {s ac ak : Addr} {size : Int} {cs cs' : List Int} {kv : List (List V)} (hl : cs'.length = cs.length) (h : IsStoreV K C H s ac ak size cs kv) : IsStoreV K C (upd H ac (.lst (cs'.map V.int))) s ac ak size cs' kv := by
  obtain ⟨dx, h1, h2, ⟨ks, g1, g2, g3⟩, h4⟩ := h
  refine ⟨dx, ?_, upd_same, ⟨ks, (upd_ne (Ne.symm h4)).trans g1, g2, fun i y n a b => ?_⟩, h4⟩
  · rw [hl]
    exact (upd_ne (fun e => by rw [e, h2] at h1; cases h1)).trans h1
  · obtain ⟨p, e, hp⟩ := g3 i y n a b
    exact ⟨p, e, sqU h2 hp⟩
/-- one block's rows stored anew -/
theorem storeV_kept {K : PySem.W.Frag} {C : Addr} {H : Hp} {s ac ak : Addr} {size : Int} {cs : List Int} {kv : List (List V)} {ks : List V} {i : Nat} {p : Addr} {xs : List V} (h : IsStoreV K C H s ac ak size cs kv) (hk : H ak = some (.lst ks)) (hp : Sq false K H p xs) :
    IsStoreV K C (upd H ak (.lst (ks.set i (.ref p)))) s ac ak size cs (kv.set i xs) := by
  obtain ⟨dx, h1, h2, ⟨ks', g1, g2, g3⟩, h4⟩ := h
  have e : ks' = ks := by
    rw [g1] at hk
    have e := Option.some.inj hk
    injection e
  subst e
  refine ⟨dx, (upd_ne (fun e => by rw [e, g1] at h1; cases h1)).trans h1, (upd_ne h4).trans h2, ⟨_, upd_same, by rw [List.length_set, List.length_set]; exact g2, fun j y m a b => ?_⟩, h4⟩
  rw [List.getElem?_set] at a b
  by_cases hij : i = j
  · subst hij
    rw [if_pos rfl] at a b
    by_cases hlt : i < ks'.length
    · rw [if_pos hlt] at a
      rw [if_pos (by omega)] at b
      cases a
      cases b
      exact ⟨p, rfl, sqU g1 hp⟩
    · rw [if_neg hlt] at a; cases a
  · rw [if_neg hij] at a b
    obtain ⟨q, e, hq⟩ := g3 j y m a b
    exact ⟨q, e, sqU g1 hq⟩
/-! ### the first free block; blocks held; numbers or others -/
def firstZ (cs : List Int) : Option Nat := cs.findIdx? fun c => decide (c = 0)
theorem firstZ_some {cs : List Int} {j : Nat} (h : firstZ cs = some j) : j < cs.length ∧ nth cs ((j : Nat) : Int) = 0 ∧ ∀ m : Nat, m < j → nth cs ((m : Nat) : Int) ≠ 0 := by
  obtain ⟨h1, h2, h3⟩ := List.findIdx?_eq_some_iff_getElem.mp h
  refine ⟨h1, by rw [nth_get h1]; exact of_decide_eq_true h2, fun m hm => ?_⟩
  have := h3 m hm
  rw [nth_get (by omega)]
  simpa using this
theorem firstZ_none {cs : List Int} (h : firstZ cs = none) : ∀ m : Nat, m < cs.length → nth cs ((m : Nat) : Int) ≠ 0 := fun m hm => by
  have := List.findIdx?_eq_none_iff.mp h _ (List.getElem_mem hm)
  rw [nth_get hm]
  simpa using this
theorem firstZ_of {cs : List Int} {j : Nat} (h1 : j < cs.length) (h2 : nth cs ((j : Nat) : Int) = 0) (h3 : ∀ m : Nat, m < j → nth cs ((m : Nat) : Int) ≠ 0) : firstZ cs = some j := by
  refine List.findIdx?_eq_some_iff_getElem.mpr ⟨h1, ?_, fun m hm => ?_⟩
  · rw [nth_get h1] at h2
    simpa using h2
  · have := h3 m hm
    rw [nth_get (by omega)] at this
    simpa using this
theorem firstZ_no {cs : List Int} (h : ∀ m : Nat, m < cs.length → nth cs ((m : Nat) : Int) ≠ 0) : firstZ cs = none := by
  refine List.findIdx?_eq_none_iff.mpr fun x hx => ?_
  obtain ⟨m, hm, rfl⟩ := List.mem_iff_getElem.mp hx
  have := h m hm
  rw [nth_get hm] at this
  simpa using this
def heldD (cs : List Int) : Option Int → Option Nat
  | some i => if 0 ≤ i ∧ i < cs.length ∧ nth cs i ≠ 0 then some i.toNat else none
  | none => none
theorem heldD_some {cs : List Int} {o : Option Int} {b : Nat} (h : heldD cs o = some b) : o = some (b : Int) ∧ b < cs.length ∧ nth cs ((b : Nat) : Int) ≠ 0 := by
  cases o with
  | none => cases h
  | some i =>
    by_cases hc : 0 ≤ i ∧ i < cs.length ∧ nth cs i ≠ 0
    · have e : heldD cs (some i) = some i.toNat := if_pos hc
      rw [e] at h
      cases h
      obtain ⟨h1, h2, h3⟩ := hc
      rw [Int.toNat_of_nonneg h1]
      exact ⟨rfl, by omega, h3⟩
    · have e : heldD cs (some i) = none := if_neg hc
      rw [e] at h; cases h
theorem heldD_of {cs : List Int} {b : Nat} (h1 : b < cs.length) (h2 : nth cs ((b : Nat) : Int) ≠ 0) : heldD cs (some (b : Int)) = some b := by
  have e : heldD cs (some (b : Int)) = some ((b : Int)).toNat := if_pos ⟨by omega, by omega, h2⟩
  rw [e, Int.toNat_natCast]
/-! ### the methods -/
def sp_Store___init__ (K : PySem.W.Frag) (C : Addr) : Sp := fun vs H Q _ => ∃ (s dx : Addr) (many : Nat) (size : Int), vs = [.ref s, .int many, .int size] ∧ H s = some (.ins C dx []) ∧ 1 ≤ many ∧ many ≤ 60 ∧ 1 ≤ size ∧ size ≤ 8 ∧
  ∀ ac ak H', Fr s H H' → H ac = none → H ak = none → IsStoreV K C H' s ac ak size (List.replicate many 0) (List.replicate many []) → Q .non H'
theorem nth_rep0 {n i : Nat} : nth (List.replicate n (0 : Int)) (i : Int) = 0 := by
  rw [nth_nat, List.getD_eq_getElem?_getD, List.getElem?_replicate]
  split <;> rfl
theorem getD_rep {n i : Nat} : (List.replicate n ([] : List V)).getD i [] = [] := by
  rw [List.getD_eq_getElem?_getD, List.getElem?_replicate]
  split <;> rfl
theorem rep_sok {many : Nat} {size : Int} (h1 : 1 ≤ many) (h2 : many ≤ 60) (h3 : 1 ≤ size) (h4 : size ≤ 8) : SOk size (List.replicate many 0) (List.replicate many []) :=
  ⟨by rw [List.length_replicate, List.length_replicate], by rw [List.length_replicate]; exact ⟨h1, h2⟩, ⟨h3, h4⟩, fun c hc => by rw [(List.mem_replicate.mp hc).2]; exact Int.le_refl _, fun b _ => getD_rep, fun xs hx => by
    rw [(List.mem_replicate.mp hx).2]
    show (0 : Int) ≤ size
    omega⟩
theorem ok_Store___init__ (T : Txt K mg) : FnOk P w K mg base CX0 3 T.a_Store___init__ T.d_Store___init__ ["self", "many", "size"] (sp_Store___init__ K T.c_Store) := by
  refine T.F_Store___init__.ok sc_Store___init__ (fun vs H Q E h => ?_) (fun cdv A outer s H vs Q E hr h => ?_)
  · obtain ⟨_, _, _, _, rfl, _⟩ := h
    rfl
  · obtain ⟨st, dx, many, size, rfl, h0, hm0, hm1, hs0, hs1, k⟩ := h
    have cS := T.C_Store
    have n1 := T.n_Store_many
    have n2 := T.n_Store_size
    have n3 := T.n_Store_counts
    have n4 := T.n_Store_kept
    refine ⟨_, (pss_cons (ps_if (pt_not (k_tru (K := K) rfl (pe_call (ok_is_between T) (hr.mono (by decide)) (by rfl) T.g_is_between T.F_is_between.kp T.b_is_between .nil pass0 (pa_cons (pv 1) (pa_cons pe_int (pa_cons (pe_glob (v := .int 60) (by rfl) T.gk_MOST_BLOCKS ⟨_, rfl⟩) pa_nil)))) (by intro _; rfl))) (pss_one ps_never) pss_nil)
      (pss_cons (ps_if (pt_not (k_tru (K := K) rfl (pe_call (ok_is_between T) (hr.mono (by decide)) (by rfl) T.g_is_between T.F_is_between.kp T.b_is_between .nil pass0 (pa_cons (pv 2) (pa_cons pe_int (pa_cons (pe_glob (v := .int 8) (by rfl) T.gk_MOST_ROWS ⟨_, rfl⟩) pa_nil)))) (by intro _; rfl))) (pss_one ps_never) pss_nil)
      (pss_cons (k_sfld (K := K) rfl (pv 0) (pv 1) rfl)
      (pss_cons (k_sfld (K := K) rfl (pv 0) (pv 2) rfl)
      (pss_cons (k_sfld (K := K) rfl (pv 0) (pe_lc (own := [("_", 3)]) (g := gName 3) (tt := tYes) rfl sc_Store___init__.nd (pi_range1 rfl T.z_range (pa_cons (pv 1) pa_nil)) (blkOk_by (own := [("_", 3)]) (by kernel_rfl)) (fun _ _ _ _ _ => (pg_name (i := 3) sc_Store___init__.nd rfl (by first | exact Or.inl rfl | exact Or.inr rfl))) (fun _ _ _ _ _ => pts_nil) (fun _ _ _ _ _ => pe_int)) rfl)
      (pss_one (k_sfld (K := K) rfl (pv 0) (pe_lc (own := [("_", 3)]) (g := gName 3) (tt := tYes) rfl sc_Store___init__.nd (pi_range1 rfl T.z_range (pa_cons (pv 1) pa_nil)) (blkOk_by (own := [("_", 3)]) (by kernel_rfl)) (fun _ _ _ _ _ => (pg_name (i := 3) sc_Store___init__.nd rfl (by first | exact Or.inl rfl | exact Or.inr rfl))) (fun _ _ _ _ _ => pts_nil) (fun _ _ _ _ _ => (pe_tup pa_nil))) rfl))))))), ?_⟩
    refine go_start (σ' := [some (.ref st), some (.int many), some (.int size), none]) rfl ?_
    try dsimp only [cxOf, Cx.nox, Cx.wish]
    walk_at "go"
    refine ⟨.int many, 1, 60, _, rfl, .inl ⟨_, rfl, rfl⟩, ?_⟩
    rw [decide_eq_true (show (1 : Int) ≤ (many : Int) ∧ (many : Int) ≤ 60 by omega)]
    walk_at "go"
    refine ⟨.int size, 1, 8, _, rfl, .inl ⟨_, rfl, rfl⟩, ?_⟩
    rw [decide_eq_true (show (1 : Int) ≤ size ∧ size ≤ 8 by omega)]
    walk_at "go"
    have f2 : Fr st H (upd (upd H st (.ins T.c_Store dx [("many", .int many)])) st (.ins T.c_Store dx [("many", .int many), ("size", .int size)])) := ((Fr.refl _ _).upd _).upd _
    have h2 : (upd (upd H st (.ins T.c_Store dx [("many", .int many)])) st (.ins T.c_Store dx [("many", .int many), ("size", .int size)])) st = some (.ins T.c_Store dx [("many", .int many), ("size", .int size)]) := upd_same
    generalize upd (upd H st (.ins T.c_Store dx [("many", .int many)])) st (.ins T.c_Store dx [("many", .int many), ("size", .int size)]) = H2 at f2 h2 ⊢
    refine c_intsR (by omega) (by omega) (List.replicate many 0) (by rw [List.length_replicate]; omega) (fun _ => rfl) (fun j H3 M hj s3 hM => ?_) (fun ac H3 hac s3 eac => ?_)
    · walk_at "go"
      rw [← nth_rep0 (n := many) (i := j)]
      exact hM _ (Same.refl _)
    have h3 := s3 _ _ h2
    have hacs : ac ≠ st := fun e => by rw [e, h2] at hac; cases hac
    have hac0 : H ac = none := by
      cases e : H ac with
      | none => rfl
      | some u => rw [f2 _ _ hacs e] at hac; cases hac
    walk_at "go"
    have f4 : Fr st H3 (upd H3 st (.ins T.c_Store dx [("many", .int many), ("size", .int size), ("counts", .ref ac)])) := (Fr.refl _ _).upd _
    have h4 : (upd H3 st (.ins T.c_Store dx [("many", .int many), ("size", .int size), ("counts", .ref ac)])) st = some (.ins T.c_Store dx [("many", .int many), ("size", .int size), ("counts", .ref ac)]) := upd_same
    generalize upd H3 st (.ins T.c_Store dx [("many", .int many), ("size", .int size), ("counts", .ref ac)]) = H4 at f4 h4 ⊢
    have eac4 := f4 _ _ hacs eac
    refine c_repR (R := RRw false K) RRw.mono RRw.tup (by omega) (by omega) (List.replicate many []) (by rw [List.length_replicate]; omega) (fun _ => rfl) (fun j d H5 M hj hd s5 hM => ?_) (fun ak H5 ys hak s5 eak hyl hyr => ?_)
    · rw [List.getElem?_replicate] at hd
      split at hd
      · cases hd
        walk_at "go"
        refine ⟨Nat.zero_le _, fun p hp => ?_⟩
        exact hM _ _ (Same.new hp) ⟨p, rfl, Sq.tup upd_same⟩
      · cases hd
    have h5 := s5 _ _ h4
    have haks : ak ≠ st := fun e => by rw [e, h4] at hak; cases hak
    have f04 : Fr st H H4 := (f2.trans (Fr.same s3)).trans f4
    have hak0 : H ak = none := by
      cases e : H ak with
      | none => rfl
      | some u => rw [f04 _ _ haks e] at hak; cases hak
    walk_at "go"
    have f6 : Fr st H5 (upd H5 st (.ins T.c_Store dx (StoreF many size ac ak))) := (Fr.refl _ _).upd _
    refine k ac ak _ ((f04.trans (Fr.same s5)).trans f6) hac0 hak0 ⟨dx, ?_, f6 _ _ hacs (s5 _ _ eac4), ⟨ys, f6 _ _ haks eak, hyl, fun i y n a b => ?_⟩, fun e => by rw [← e, eac4] at hak; cases hak⟩
    · rw [List.length_replicate]; exact upd_same
    · obtain ⟨p, e, hp⟩ := hyr i y n a b
      exact ⟨p, e, f6.sqI ⟨_, _, _, h5⟩ hp⟩
def freeOf (cs : List Int) : Nat := (cs.filter fun c => decide (c = 0)).length
theorem take_filter {cs : List Int} {i : Nat} (h : i < cs.length) : (cs.take (i + 1)).filter (fun c => decide (c = 0)) = (cs.take i).filter (fun c => decide (c = 0)) ++ (if nth cs ((i : Nat) : Int) = 0 then [nth cs ((i : Nat) : Int)] else []) := by
  rw [List.take_add_one, List.getElem?_eq_getElem h, nth_get h, List.filter_append]
  congr 1
  by_cases h0 : cs[i] = 0
  · rw [if_pos h0]
    show List.filter _ [cs[i]] = _
    rw [List.filter_cons_of_pos (by simpa using h0)]; rfl
  · rw [if_neg h0]
    show List.filter _ [cs[i]] = _
    rw [List.filter_cons_of_neg (by simpa using h0)]; rfl

def sp_Store_free (K : PySem.W.Frag) (C : Addr) : Sp := fun vs H Q _ => ∃ (s ac ak : Addr) (size : Int) (cs : List Int) (kv : List (List V)), vs = [.ref s] ∧ IsStoreV K C H s ac ak size cs kv ∧ SOk size cs kv ∧ ∀ H', Same H H' → Q (.int (freeOf cs : Nat)) H'
theorem ok_Store_free (T : Txt K mg) : FnOk P w K mg base CX0 1 T.a_Store_free T.d_Store_free ["self"] (sp_Store_free K T.c_Store) := by
  refine T.F_Store_free.ok sc_Store_free (fun vs H Q E h => ?_) (fun cdv A outer s H vs Q E hr h => ?_)
  · obtain ⟨_, _, _, _, _, _, rfl, _⟩ := h
    rfl
  · obtain ⟨st, ac, ak, size, cs, kv, rfl, ⟨dx, h0, hc, _, _⟩, ok, k⟩ := h
    unfold StoreF at h0
    have cS := T.C_Store
    have n3 := T.n_Store_counts
    have hm := ok.many
    refine ⟨_, (pss_one (ps_ret (pe_callB (k_lenS (K := K) rfl) (by rfl) T.z_len (by decide +kernel) (pa_cons (pe_lc (own := [("count", 1)]) (g := gName 1) rfl sc_Store_free.nd (k_seqS (K := K) rfl (k_fld (K := K) rfl (pv 0) rfl)) (blkOk_by (own := [("count", 1)]) (by kernel_rfl)) (fun _ _ _ _ _ => (pg_name (i := 1) sc_Store_free.nd rfl (by first | exact Or.inl rfl | exact Or.inr rfl))) (fun _ _ _ _ _ => pts_one (pt_cmpR (k_eqG (K := K) rfl hr.units) (pv 1) pe_int (nomark _))) (fun _ _ _ _ _ => (pv 1))) pa_nil)))), ?_⟩
    refine go_start (σ' := [some (.ref st), none]) rfl ?_
    try dsimp only [cxOf, Cx.nox, Cx.wish]
    walk_at "go"
    refine l_compGS (b := true) (cs.map V.int) (line_of1 (by rw [List.length_map]; omega)) (fun D i acc H' => Same H H' ∧ acc = ((cs.take i).filter fun c => decide (c = 0)).map V.int) (Sq.lst hc) (fun _ => rfl)
      (fun D hD => ⟨Same.new hD, rfl⟩) (fun D i acc H' st => st.1.sq (Sq.lst hc)) (fun i x H1 D acc NT NF hi hx hD st e1 hl hTr hFa => ?_) (fun D H1 ys hD st e hl => ?_)
    · obtain ⟨s1, rfl⟩ := st
      obtain ⟨rfl, hi1⟩ := vec_at hx
      have ht := take_filter hi1
      generalize nth cs ((i : Nat) : Int) = c at ht ⊢
      walk_at "go"
      refine w_iteD (fun hc0 => ?_) (fun hc0 => ?_)
      · rw [if_pos hc0] at ht
        walk_at "go"
        refine hTr _ _ e1 ⟨Same.mut s1 hD, ?_⟩
        rw [ht, List.map_append]; rfl
      · rw [if_neg hc0, List.append_nil] at ht
        exact hFa _ e1 ⟨s1, by rw [ht]⟩
    · obtain ⟨s1, rfl⟩ := st
      rw [List.length_map, List.take_length] at e
      walk_at "go"
      exact k _ s1

def sp_Store_check_held (K : PySem.W.Frag) (C CH : Addr) : Sp := fun vs H Q E => ∃ (s ac ak : Addr) (size : Int) (v : V) (o : Option Int) (cs : List Int) (kv : List (List V)), vs = [.ref s, v] ∧ IsStoreV K C H s ac ak size cs kv ∧ RAny K H v o ∧
  (∀ b, heldD cs o = some b → Q .non H) ∧ (heldD cs o = none → RaiseQ E H CH "block" v)
theorem okN_Store_check_held (T : Txt K mg) : FnOk P w K mg base (L2N.CX P w) 3 T.a_Store_check_held T.d_Store_check_held ["self", "block"] (sp_Store_check_held K T.c_Store T.c_NotHeld) := by
  refine T.F_Store_check_held.okN sc_Store_check_held (fun vs H Q E h => ?_) (fun cdv A outer s H vs Q E hr h => ?_)
  · obtain ⟨_, _, _, _, _, _, _, _, rfl, _⟩ := h
    rfl
  · obtain ⟨st, ac, ak, size, v, o, cs, kv, rfl, ⟨dx, h0, hc, _, _⟩, hv, k1, k2⟩ := h
    unfold StoreF at h0
    have cS := T.C_Store
    have n1 := T.n_Store_many
    have n3 := T.n_Store_counts
    refine ⟨_, (pss_one (ps_if (PW.pt (pw_or (pt_not (k_tru (K := K) rfl (pe_call (ok_is_between T) (hr.mono (by decide)) (by rfl) T.g_is_between T.F_is_between.kp T.b_is_between .nil pass0 (pa_cons (pv 1) (pa_cons pe_int (pa_cons (pe_op op_sub (k_fld (K := K) rfl (pv 0) rfl) pe_int) pa_nil)))) (by intro _; rfl))) (pw_or1 (pt_cmpR (k_eqG (K := K) rfl hr.units) (pe_ix (k_ix (K := K) rfl) (k_fld (K := K) rfl (pv 0) rfl) (pv 1) (fun _ _ => rfl)) pe_int (nomark _))))) (pss_one (L2N.ps_raise rfl (L2N.takes_of rfl rfl rfl rfl) (pmk_oexN T.ox_NotHeld T.ic_NotHeld T.ti_NotHeld (ok_NotHeld___init__ T) (hr.mono (by decide)) T.b_NotHeld___init__ pass0 rfl T.gc_NotHeld (pa_cons (pv 1) pa_nil)))) pss_nil)), ?_⟩
    refine go_start (σ' := [some (.ref st), some v]) rfl ?_
    try dsimp only [cxOf, Cx.nox, Cx.wish]
    cases o with
    | none =>
      walk_at "GO"
      refine ⟨v, 0, _, false, rfl, .inr ⟨rfl, hv⟩, ?_⟩
      walk_at "GO"
      exact w_raiseV T.ox_NotHeld T.nf_NotHeld rfl (k2 rfl)
    | some i =>
      obtain rfl : v = .int i := hv
      walk_at "GO"
      refine ⟨.int i, 0, _, _, rfl, .inl ⟨_, rfl, rfl⟩, ?_⟩
      by_cases hb : 0 ≤ i ∧ i ≤ (cs.length : Int) - 1
      · rw [decide_eq_true hb]
        obtain ⟨hb0, hb1⟩ := hb
        walk_at "GO"
        refine w_iteD (fun hz => ?_) (fun hz => ?_)
        · walk_at "GO"
          exact w_raiseV T.ox_NotHeld T.nf_NotHeld rfl (k2 (if_neg fun h => h.2.2 hz))
        · walk_at "GO"
          exact k1 _ (if_pos ⟨hb0, by omega, hz⟩)
      · rw [decide_eq_false hb]
        walk_at "GO"
        exact w_raiseV T.ox_NotHeld T.nf_NotHeld rfl (k2 (if_neg fun h => hb ⟨h.1, by omega⟩))
theorem ok_Store_check_held (T : Txt K mg) : FnOk P w K mg base CX0 3 T.a_Store_check_held T.d_Store_check_held ["self", "block"] (fun vs H Q _ => sp_Store_check_held K T.c_Store T.c_NotHeld vs H Q (fun _ _ _ => False)) := toCX0 (okN_Store_check_held T)

def sp_Store_check_alone (K : PySem.W.Frag) (C CH CA : Addr) : Sp := fun vs H Q E => ∃ (s ac ak : Addr) (size : Int) (v : V) (o : Option Int) (cs : List Int) (kv : List (List V)), vs = [.ref s, v] ∧ IsStoreV K C H s ac ak size cs kv ∧ RAny K H v o ∧
  (∀ b : Nat, heldD cs o = some b → nth cs ((b : Nat) : Int) ≤ 1 → Q .non H) ∧ (heldD cs o = none → RaiseQ E H CH "block" v) ∧ (∀ b : Nat, heldD cs o = some b → 1 < nth cs ((b : Nat) : Int) → RaiseQ E H CA "block" v)
theorem okN_Store_check_alone (T : Txt K mg) : FnOk P w K mg base (L2N.CX P w) 4 T.a_Store_check_alone T.d_Store_check_alone ["self", "block"] (sp_Store_check_alone K T.c_Store T.c_NotHeld T.c_NotAlone) := by
  refine T.F_Store_check_alone.okN sc_Store_check_alone (fun vs H Q E h => ?_) (fun cdv A outer s H vs Q E hr h => ?_)
  · obtain ⟨_, _, _, _, _, _, _, _, rfl, _⟩ := h
    rfl
  · obtain ⟨st, ac, ak, size, v, o, cs, kv, rfl, hI, hv, k1, k2, k3⟩ := h
    obtain ⟨dx, h0, hc, _, _⟩ := id hI
    unfold StoreF at h0
    have cS := T.C_Store
    have n3 := T.n_Store_counts
    refine ⟨_, (pss_cons (ps_expr (pe_methT (pv 0) T.C_Store T.m_Store_check_held (okN_Store_check_held T) (hr.mono (by decide)) T.b_Store_check_held .nil (fun σ => L2N.passAt (L2N.takes_of rfl rfl rfl rfl) σ) (pa_cons (pv 1) pa_nil)))
      (pss_one (ps_if (pt_cmpR op_gt (pe_ix (k_ix (K := K) rfl) (k_fld (K := K) rfl (pv 0) rfl) (pv 1) (fun _ _ => rfl)) pe_int (nomark _)) (pss_one (L2N.ps_raise rfl (L2N.takes_of rfl rfl rfl rfl) (pmk_oexN T.ox_NotAlone T.ic_NotAlone T.ti_NotAlone (ok_NotAlone___init__ T) (hr.mono (by decide)) T.b_NotAlone___init__ pass0 rfl T.gc_NotAlone (pa_cons (pv 1) pa_nil)))) pss_nil))), ?_⟩
    refine go_start (σ' := [some (.ref st), some v]) rfl ?_
    try dsimp only [cxOf, Cx.nox, Cx.wish]
    walk_at "GO"
    refine ⟨st, ac, ak, size, v, o, cs, kv, rfl, hI, hv, fun b hb => ?_, k2⟩
    obtain ⟨rfl, hb1, hb2⟩ := heldD_some hb
    obtain rfl : v = .int (b : Int) := hv
    walk_at "GO"
    refine w_iteD (fun h => ?_) (fun h => ?_)
    · walk_at "GO"
      exact w_raiseV T.ox_NotAlone T.nf_NotAlone rfl (k3 b hb (by omega))
    · walk_at "GO"
      exact k1 b hb (by omega)
theorem ok_Store_check_alone (T : Txt K mg) : FnOk P w K mg base CX0 4 T.a_Store_check_alone T.d_Store_check_alone ["self", "block"] (fun vs H Q _ => sp_Store_check_alone K T.c_Store T.c_NotHeld T.c_NotAlone vs H Q (fun _ _ _ => False)) := toCX0 (okN_Store_check_alone T)

def sp_Store_take (K : PySem.W.Frag) (C CR : Addr) : Sp := fun vs H Q E => ∃ (s ac ak : Addr) (size : Int) (cs : List Int) (kv : List (List V)), vs = [.ref s] ∧ IsStoreV K C H s ac ak size cs kv ∧ SOk size cs kv ∧
  (∀ j, firstZ cs = some j → ∀ H', Fr2 ac ak H H' → IsStoreV K C H' s ac ak size (cs.set j 1) kv → Q (.int (j : Nat)) H') ∧ (firstZ cs = none → RaiseQ E H CR "many" (.int 1))
theorem okN_Store_take (T : Txt K mg) : FnOk P w K mg base (L2N.CX P w) 3 T.a_Store_take T.d_Store_take ["self"] (sp_Store_take K T.c_Store T.c_NoRoom) := by
  refine T.F_Store_take.okN sc_Store_take (fun vs H Q E h => ?_) (fun cdv A outer s H vs Q E hr h => ?_)
  · obtain ⟨_, _, _, _, _, _, rfl, _⟩ := h
    rfl
  · obtain ⟨st, ac, ak, size, cs, kv, rfl, hI, ok, k1, k2⟩ := h
    obtain ⟨dx, h0, hc, _, _⟩ := id hI
    unfold StoreF at h0
    have cS := T.C_Store
    have n1 := T.n_Store_many
    have n3 := T.n_Store_counts
    have hm := ok.many
    refine ⟨_, (pss_cons (ps_for (passes_of rfl) rfl (pi_range1 rfl T.z_range (pa_cons (k_fld (K := K) rfl (pv 0) rfl) pa_nil)) (pg_name (i := 1) sc_Store_take.nd rfl (Or.inl rfl))
      (pss_one (ps_if (pt_cmpR (k_eqG (K := K) rfl hr.units) (pe_ix (k_ix (K := K) rfl) (k_fld (K := K) rfl (pv 0) rfl) (pv 1) (fun _ _ => rfl)) pe_int (nomark _)) (pss_cons (ps_asg pe_int (pg_sub (k_fld (K := K) rfl (pv 0) rfl) (pv 1) set_list))
      (pss_one (ps_ret (pv 1)))) pss_nil)))
      (pss_one (L2N.ps_raise rfl (L2N.takes_of rfl rfl rfl rfl) (pmk_oexN T.ox_NoRoom T.ic_NoRoom T.ti_NoRoom (ok_NoRoom___init__ T) (hr.mono (by decide)) T.b_NoRoom___init__ pass0 rfl T.gc_NoRoom (pa_cons pe_int pa_nil))))), ?_⟩
    refine go_start (σ' := [some (.ref st), none]) rfl ?_
    try dsimp only [cxOf, Cx.nox, Cx.wish]
    walk_at "GO"
    refine l_range (fun i σ H' => ∃ (y1 : Option V), σ = [some (.ref st), y1] ∧ (∀ m : Nat, m < i → nth cs ((m : Nat) : Int) ≠ 0) ∧ H' = H) (by omega) (by omega) ⟨none, rfl, fun m h => absurd h (Nat.not_lt_zero m), rfl⟩ ?_ ?_
    · rintro i σ H' hi ⟨y1, rfl, hij, rfl⟩
      walk_at "GO"
      refine w_iteD (fun hz => ?_) (fun hz => ?_)
      · walk_at "GO"
        refine w_setI hc (by omega) (by omega) ?_
        walk_at "GO"
        rw [Int.toNat_natCast]
        exact k1 i (firstZ_of (by omega) hz hij) _ (Fr2.left ((Fr.refl _ _).upd _)) (storeV_counts (by rw [List.length_set]) hI)
      · walk_at "GO"
        refine ⟨_, rfl, fun m hm => ?_, rfl⟩
        by_cases e : m = i
        · rw [e]; exact hz
        · exact hij m (by omega)
    · rintro σ H' ⟨y1, rfl, hij, rfl⟩
      walk_at "GO"
      exact w_raiseC T.ox_NoRoom T.nf_NoRoom (k2 (firstZ_no fun m hm => hij m (by omega)))
theorem ok_Store_take (T : Txt K mg) : FnOk P w K mg base CX0 3 T.a_Store_take T.d_Store_take ["self"] (fun vs H Q _ => sp_Store_take K T.c_Store T.c_NoRoom vs H Q (fun _ _ _ => False)) := toCX0 (okN_Store_take T)

def sp_Store_hold (K : PySem.W.Frag) (C CH : Addr) : Sp := fun vs H Q E => ∃ (s ac ak : Addr) (size : Int) (v : V) (o : Option Int) (cs : List Int) (kv : List (List V)), vs = [.ref s, v] ∧ IsStoreV K C H s ac ak size cs kv ∧ RAny K H v o ∧
  (∀ b : Nat, heldD cs o = some b → ∀ H', Fr2 ac ak H H' → IsStoreV K C H' s ac ak size (cs.set b (nth cs ((b : Nat) : Int) + 1)) kv → Q .non H') ∧ (heldD cs o = none → RaiseQ E H CH "block" v)
theorem okN_Store_hold (T : Txt K mg) : FnOk P w K mg base (L2N.CX P w) 4 T.a_Store_hold T.d_Store_hold ["self", "block"] (sp_Store_hold K T.c_Store T.c_NotHeld) := by
  refine T.F_Store_hold.okN sc_Store_hold (fun vs H Q E h => ?_) (fun cdv A outer s H vs Q E hr h => ?_)
  · obtain ⟨_, _, _, _, _, _, _, _, rfl, _⟩ := h
    rfl
  · obtain ⟨st, ac, ak, size, v, o, cs, kv, rfl, hI, hv, k1, k2⟩ := h
    obtain ⟨dx, h0, hc, _, _⟩ := id hI
    unfold StoreF at h0
    have cS := T.C_Store
    have n3 := T.n_Store_counts
    refine ⟨_, (pss_cons (ps_expr (pe_methT (pv 0) T.C_Store T.m_Store_check_held (okN_Store_check_held T) (hr.mono (by decide)) T.b_Store_check_held .nil (fun σ => L2N.passAt (L2N.takes_of rfl rfl rfl rfl) σ) (pa_cons (pv 1) pa_nil)))
      (PSs.nox (pss_one (ps_augS (k_fld (K := K) rfl (pv 0) rfl) (pv 1) get_list pe_int ip_add set_list)))), ?_⟩
    refine go_start (σ' := [some (.ref st), some v]) rfl ?_
    try dsimp only [cxOf, Cx.nox, Cx.wish]
    walk_at "GO"
    refine ⟨st, ac, ak, size, v, o, cs, kv, rfl, hI, hv, fun b hb => ?_, k2⟩
    obtain ⟨rfl, hb1, hb2⟩ := heldD_some hb
    obtain rfl : v = .int (b : Int) := hv
    walk_at "GO"
    refine w_setI hc (by omega) (by omega) ?_
    walk_at "GO"
    rw [Int.toNat_natCast]
    exact k1 b hb _ (Fr2.left ((Fr.refl _ _).upd _)) (storeV_counts (by rw [List.length_set]) hI)
theorem ok_Store_hold (T : Txt K mg) : FnOk P w K mg base CX0 4 T.a_Store_hold T.d_Store_hold ["self", "block"] (fun vs H Q _ => sp_Store_hold K T.c_Store T.c_NotHeld vs H Q (fun _ _ _ => False)) := toCX0 (okN_Store_hold T)

def relK (cs : List Int) (kv : List (List V)) (b : Nat) : List (List V) := if nth cs ((b : Nat) : Int) - 1 = 0 then kv.set b [] else kv

def sp_Store_release (K : PySem.W.Frag) (C CH : Addr) : Sp := fun vs H Q E => ∃ (s ac ak : Addr) (size : Int) (v : V) (o : Option Int) (cs : List Int) (kv : List (List V)), vs = [.ref s, v] ∧ IsStoreV K C H s ac ak size cs kv ∧ SOk size cs kv ∧ RAny K H v o ∧
  (∀ b : Nat, heldD cs o = some b → ∀ H', Fr2 ac ak H H' → IsStoreV K C H' s ac ak size (cs.set b (nth cs ((b : Nat) : Int) - 1)) (relK cs kv b) → Q .non H') ∧ (heldD cs o = none → RaiseQ E H CH "block" v)
theorem okN_Store_release (T : Txt K mg) : FnOk P w K mg base (L2N.CX P w) 4 T.a_Store_release T.d_Store_release ["self", "block"] (sp_Store_release K T.c_Store T.c_NotHeld) := by
  refine T.F_Store_release.okN sc_Store_release (fun vs H Q E h => ?_) (fun cdv A outer s H vs Q E hr h => ?_)
  · obtain ⟨_, _, _, _, _, _, _, _, rfl, _⟩ := h
    rfl
  · obtain ⟨st, ac, ak, size, v, o, cs, kv, rfl, hI, ok, hv, k1, k2⟩ := h
    obtain ⟨dx, h0, hc, _, _⟩ := id hI
    unfold StoreF at h0
    have cS := T.C_Store
    have n3 := T.n_Store_counts
    have n4 := T.n_Store_kept
    have hl := ok.len
    refine ⟨_, (pss_cons (ps_expr (pe_methT (pv 0) T.C_Store T.m_Store_check_held (okN_Store_check_held T) (hr.mono (by decide)) T.b_Store_check_held .nil (fun σ => L2N.passAt (L2N.takes_of rfl rfl rfl rfl) σ) (pa_cons (pv 1) pa_nil)))
      (PSs.nox (pss_cons (ps_augS (k_fld (K := K) rfl (pv 0) rfl) (pv 1) get_list pe_int ip_sub set_list)
      (pss_one (ps_if (pt_cmpR (k_eqG (K := K) rfl hr.units) (pe_ix (k_ix (K := K) rfl) (k_fld (K := K) rfl (pv 0) rfl) (pv 1) (fun _ _ => rfl)) pe_int (nomark _)) (pss_one (ps_asg (pe_tup pa_nil) (pg_sub (k_fld (K := K) rfl (pv 0) rfl) (pv 1) set_list))) pss_nil))))), ?_⟩
    refine go_start (σ' := [some (.ref st), some v]) rfl ?_
    try dsimp only [cxOf, Cx.nox, Cx.wish]
    walk_at "GO"
    refine ⟨st, ac, ak, size, v, o, cs, kv, rfl, hI, hv, fun b hb => ?_, k2⟩
    obtain ⟨rfl, hb1, hb2⟩ := heldD_some hb
    obtain rfl : v = .int (b : Int) := hv
    have k1 := k1 b hb
    walk_at "GO"
    refine w_setI hc (by omega) (by omega) ?_
    rw [Int.toNat_natCast]
    have hI1 := storeV_counts (cs' := cs.set b (nth cs ((b : Nat) : Int) - 1)) (by rw [List.length_set]) hI
    have fr1 : Fr2 ac ak H (upd H ac (.lst ((cs.set b (nth cs ((b : Nat) : Int) - 1)).map V.int))) := Fr2.left ((Fr.refl _ _).upd _)
    generalize upd H ac (.lst ((cs.set b (nth cs ((b : Nat) : Int) - 1)).map V.int)) = H1 at hI1 fr1 ⊢
    obtain ⟨dx1, h01, hc1, ⟨ks, hk1, hk2, _⟩, _⟩ := id hI1
    unfold StoreF at h01
    have hbl : ((b : Nat) : Int) < ((cs.set b (nth cs ((b : Nat) : Int) - 1)).length : Int) := by rw [List.length_set]; omega
    have eb : nth (cs.set b (nth cs ((b : Nat) : Int) - 1)) ((b : Nat) : Int) = nth cs ((b : Nat) : Int) - 1 := by rw [nthS hb1, if_pos rfl]
    clear hc h0
    walk_at "GO"
    rw [eb]
    unfold relK at k1
    refine w_iteD (fun hz => ?_) (fun hz => ?_)
    · rw [if_pos hz] at k1
      walk_at "GO"
      rename_i p2 H2 hp2 s2 e2
      have hk2' := s2 _ _ hk1
      refine w_setV hk2' (by omega) (by omega) ?_
      walk_at "GO"
      rw [Int.toNat_natCast]
      exact k1 _ ((fr1.trans (Fr2.same s2)).trans (Fr2.right ((Fr.refl _ _).upd _))) (storeV_kept (storeV_same s2 hI1) hk2' (Sq.tup e2))
    · rw [if_neg hz] at k1
      walk_at "GO"
      exact k1 _ fr1 hI1
theorem ok_Store_release (T : Txt K mg) : FnOk P w K mg base CX0 4 T.a_Store_release T.d_Store_release ["self", "block"] (fun vs H Q _ => sp_Store_release K T.c_Store T.c_NotHeld vs H Q (fun _ _ _ => False)) := toCX0 (okN_Store_release T)

theorem KeptV.get {K : PySem.W.Frag} {H : Hp} {ak : Addr} {kv : List (List V)} {b : Nat} (h : KeptV K H ak kv) (hb : b < kv.length) : ∃ ks p, H ak = some (.lst ks) ∧ ks.length = kv.length ∧ ks[b]? = some (.ref p) ∧ Sq false K H p (kv.getD b []) := by
  obtain ⟨ks, h1, h2, h3⟩ := h
  have hx : kv[b]? = some (kv.getD b []) := by rw [List.getD_eq_getElem?_getD, List.getElem?_eq_getElem hb]; rfl
  obtain ⟨p, e, hp⟩ := h3 b _ _ (List.getElem?_eq_getElem (by omega)) hx
  exact ⟨ks, p, h1, h2, by rw [List.getElem?_eq_getElem (by omega), e], hp⟩

def sp_Store_put_row (K : PySem.W.Frag) (C CH CA CR : Addr) : Sp := fun vs H Q E => ∃ (s ac ak : Addr) (size : Int) (v row : V) (o : Option Int) (cs : List Int) (kv : List (List V)), vs = [.ref s, v, row] ∧ IsStoreV K C H s ac ak size cs kv ∧ SOk size cs kv ∧ RAny K H v o ∧
  (∀ b : Nat, heldD cs o = some b → nth cs ((b : Nat) : Int) ≤ 1 → ((kv.getD b []).length : Int) ≠ size → ∀ H', Fr2 ac ak H H' → IsStoreV K C H' s ac ak size cs (kv.set b (kv.getD b [] ++ [row])) → Q .non H') ∧
  (heldD cs o = none → RaiseQ E H CH "block" v) ∧ (∀ b : Nat, heldD cs o = some b → 1 < nth cs ((b : Nat) : Int) → RaiseQ E H CA "block" v) ∧
  (∀ b : Nat, heldD cs o = some b → nth cs ((b : Nat) : Int) ≤ 1 → ((kv.getD b []).length : Int) = size → RaiseQ E H CR "many" (.int 1))
theorem okN_Store_put_row (T : Txt K mg) : FnOk P w K mg base (L2N.CX P w) 5 T.a_Store_put_row T.d_Store_put_row ["self", "block", "row"] (sp_Store_put_row K T.c_Store T.c_NotHeld T.c_NotAlone T.c_NoRoom) := by
  refine T.F_Store_put_row.okN sc_Store_put_row (fun vs H Q E h => ?_) (fun cdv A outer s H vs Q E hr h => ?_)
  · obtain ⟨_, _, _, _, _, _, _, _, _, rfl, _⟩ := h
    rfl
  · obtain ⟨st, ac, ak, size, v, row, o, cs, kv, rfl, hI, ok, hv, k1, k2, k3, k4⟩ := h
    obtain ⟨dx, h0, hc, hK, _⟩ := id hI
    unfold StoreF at h0
    have cS := T.C_Store
    have n2 := T.n_Store_size
    have n4 := T.n_Store_kept
    have hsz := ok.size
    have hln := ok.len
    refine ⟨_, (pss_cons (ps_expr (pe_methT (pv 0) T.C_Store T.m_Store_check_alone (okN_Store_check_alone T) (hr.mono (by decide)) T.b_Store_check_alone .nil (fun σ => L2N.passAt (L2N.takes_of rfl rfl rfl rfl) σ) (pa_cons (pv 1) pa_nil)))
      (pss_cons (ps_if (pt_cmpR (k_eqG (K := K) rfl hr.units) (pe_callB (k_lenS (K := K) rfl) (by rfl) T.z_len (by decide +kernel) (pa_cons (pe_ix (k_ix (K := K) rfl) (k_fld (K := K) rfl (pv 0) rfl) (pv 1) (fun _ _ => rfl)) pa_nil)) (k_fld (K := K) rfl (pv 0) rfl) (nomark _)) (pss_one (L2N.ps_raise rfl (L2N.takes_of rfl rfl rfl rfl) (pmk_oexN T.ox_NoRoom T.ic_NoRoom T.ti_NoRoom (ok_NoRoom___init__ T) (hr.mono (by decide)) T.b_NoRoom___init__ pass0 rfl T.gc_NoRoom (pa_cons pe_int pa_nil)))) pss_nil)
      (PSs.nox (pss_one (ps_asg (pe_op op_catA (pe_ix (k_ix (K := K) rfl) (k_fld (K := K) rfl (pv 0) rfl) (pv 1) (fun _ _ => rfl)) (pe_tup (pa_cons (pv 2) pa_nil))) (pg_sub (k_fld (K := K) rfl (pv 0) rfl) (pv 1) set_list)))))), ?_⟩
    refine go_start (σ' := [some (.ref st), some v, some row]) rfl ?_
    try dsimp only [cxOf, Cx.nox, Cx.wish]
    walk_at "GO"
    refine ⟨st, ac, ak, size, v, o, cs, kv, rfl, hI, hv, fun b hb hb1 => ?_, k2, k3⟩
    obtain ⟨rfl, hbl, hbn⟩ := heldD_some hb
    obtain rfl : v = .int (b : Int) := hv
    have k1 := k1 b hb hb1
    have k4 := k4 b hb hb1
    obtain ⟨ks, p, hk1, hk2, hat, hp⟩ := hK.get (b := b) (by omega)
    have hfull : ((kv.getD b []).length : Int) ≤ size := ok.full _ (by rw [List.getD_eq_getElem?_getD, List.getElem?_eq_getElem (by omega)]; exact List.getElem_mem _)
    walk_at "GO"
    refine w_ix (Sq.lst hk1) (atI_nat hat) ?_
    walk_at "GO"
    refine w_iteD (fun h => ?_) (fun h => ?_)
    · walk_at "GO"
      exact w_raiseC T.ox_NoRoom T.nf_NoRoom (k4 h)
    walk_at "GO"
    refine w_ix (Sq.lst hk1) (atI_nat hat) ?_
    walk_at "GO"
    rename_i q1 H1 hq1 s1 e1
    refine w_catA (s1.sq hp) (Sq.tup e1) (by show (kv.getD b []).length + 1 ≤ _; omega) fun q2 H2 s2 hq2 => ?_
    have s12 := s1.trans s2
    have hk2' := s12 _ _ hk1
    have h02 := s12 _ _ h0
    walk_at "GO"
    refine w_setV hk2' (by omega) (by omega) ?_
    walk_at "GO"
    rw [Int.toNat_natCast]
    exact k1 h _ ((Fr2.same s12).trans (Fr2.right ((Fr.refl _ _).upd _))) (storeV_kept (storeV_same s12 hI) hk2' hq2)
theorem ok_Store_put_row (T : Txt K mg) : FnOk P w K mg base CX0 5 T.a_Store_put_row T.d_Store_put_row ["self", "block", "row"] (fun vs H Q _ => sp_Store_put_row K T.c_Store T.c_NotHeld T.c_NotAlone T.c_NoRoom vs H Q (fun _ _ _ => False)) := toCX0 (okN_Store_put_row T)




def sp_Store_holders (K : PySem.W.Frag) (C CH : Addr) : Sp := fun vs H Q E => ∃ (s ac ak : Addr) (size : Int) (v : V) (o : Option Int) (cs : List Int) (kv : List (List V)), vs = [.ref s, v] ∧ IsStoreV K C H s ac ak size cs kv ∧ RAny K H v o ∧
  (∀ b : Nat, o = some (b : Int) → b < cs.length → Q (.int (nth cs ((b : Nat) : Int))) H) ∧ (btw 0 ((cs.length : Int) - 1) o = false → RaiseQ E H CH "block" v)
theorem okN_Store_holders (T : Txt K mg) : FnOk P w K mg base (L2N.CX P w) 3 T.a_Store_holders T.d_Store_holders ["self", "block"] (sp_Store_holders K T.c_Store T.c_NotHeld) := by
  refine T.F_Store_holders.okN sc_Store_holders (fun vs H Q E h => ?_) (fun cdv A outer s H vs Q E hr h => ?_)
  · obtain ⟨_, _, _, _, _, _, _, _, rfl, _⟩ := h
    rfl
  · obtain ⟨st, ac, ak, size, v, o, cs, kv, rfl, ⟨dx, h0, hc, _, _⟩, hv, k1, k2⟩ := h
    unfold StoreF at h0
    have cS := T.C_Store
    have n1 := T.n_Store_many
    have n3 := T.n_Store_counts
    refine ⟨_, (pss_cons (ps_if (pt_not (k_tru (K := K) rfl (pe_call (ok_is_between T) (hr.mono (by decide)) (by rfl) T.g_is_between T.F_is_between.kp T.b_is_between .nil pass0 (pa_cons (pv 1) (pa_cons pe_int (pa_cons (pe_op op_sub (k_fld (K := K) rfl (pv 0) rfl) pe_int) pa_nil)))) (by intro _; rfl))) (pss_one (L2N.ps_raise rfl (L2N.takes_of rfl rfl rfl rfl) (pmk_oexN T.ox_NotHeld T.ic_NotHeld T.ti_NotHeld (ok_NotHeld___init__ T) (hr.mono (by decide)) T.b_NotHeld___init__ pass0 rfl T.gc_NotHeld (pa_cons (pv 1) pa_nil)))) pss_nil)
      (PSs.nox (pss_one (ps_ret (pe_ix (k_ix (K := K) rfl) (k_fld (K := K) rfl (pv 0) rfl) (pv 1) (fun _ _ => rfl)))))), ?_⟩
    refine go_start (σ' := [some (.ref st), some v]) rfl ?_
    try dsimp only [cxOf, Cx.nox, Cx.wish]
    walk_at "GO"
    refine ⟨v, 0, _, _, rfl, hv.btw _ _, ?_⟩
    cases hbt : btw 0 ((cs.length : Int) - 1) o with
    | false =>
      walk_at "GO"
      exact w_raiseV T.ox_NotHeld T.nf_NotHeld rfl (k2 hbt)
    | true =>
      cases o with
      | none => cases hbt
      | some i =>
        have hm := of_decide_eq_true hbt
        obtain ⟨b, rfl⟩ : ∃ b : Nat, i = (b : Int) := ⟨i.toNat, by omega⟩
        obtain rfl : v = .int (b : Int) := hv
        walk_at "GO"
        exact k1 b rfl (by omega)
theorem ok_Store_holders (T : Txt K mg) : FnOk P w K mg base CX0 3 T.a_Store_holders T.d_Store_holders ["self", "block"] (fun vs H Q _ => sp_Store_holders K T.c_Store T.c_NotHeld vs H Q (fun _ _ _ => False)) := toCX0 (okN_Store_holders T)

/-! ### what the methods leave is a store -/
theorem SOk.take {size : Int} {cs : List Int} {kv : List (List V)} (ok : SOk size cs kv) {j : Nat} (h : firstZ cs = some j) : SOk size (cs.set j 1) kv := by
  obtain ⟨h1, h2, _⟩ := firstZ_some h
  refine ⟨by rw [List.length_set]; exact ok.len, by rw [List.length_set]; exact ok.many, ok.size, fun c hc => ?_, fun b hb => ?_, ok.full⟩
  · rcases List.mem_or_eq_of_mem_set hc with h | h
    · exact ok.pos c h
    · omega
  · rw [nthS h1] at hb
    by_cases e : b = j
    · rw [if_pos e] at hb; exact absurd hb (by omega)
    · rw [if_neg e] at hb; exact ok.empty b hb
theorem SOk.cnt {size : Int} {cs : List Int} {kv : List (List V)} (ok : SOk size cs kv) {b : Nat} (hb : b < cs.length) : 0 ≤ nth cs ((b : Nat) : Int) := ok.pos _ (nth_mem (by omega) (by omega))
theorem SOk.hold {size : Int} {cs : List Int} {kv : List (List V)} (ok : SOk size cs kv) {b : Nat} (hb : b < cs.length) : SOk size (cs.set b (nth cs ((b : Nat) : Int) + 1)) kv := by
  have h0 := ok.cnt hb
  refine ⟨by rw [List.length_set]; exact ok.len, by rw [List.length_set]; exact ok.many, ok.size, fun c hc => ?_, fun i hi => ?_, ok.full⟩
  · rcases List.mem_or_eq_of_mem_set hc with h | h
    · exact ok.pos c h
    · omega
  · rw [nthS hb] at hi
    by_cases e : i = b
    · rw [if_pos e] at hi; exact absurd hi (by omega)
    · rw [if_neg e] at hi; exact ok.empty i hi
theorem relK_len {cs : List Int} {kv : List (List V)} {b : Nat} : (relK cs kv b).length = kv.length := by
  unfold relK
  split
  · rw [List.length_set]
  · rfl
theorem SOk.release {size : Int} {cs : List Int} {kv : List (List V)} (ok : SOk size cs kv) {b : Nat} (hb : b < cs.length) (hn : nth cs ((b : Nat) : Int) ≠ 0) : SOk size (cs.set b (nth cs ((b : Nat) : Int) - 1)) (relK cs kv b) := by
  have h0 := ok.cnt hb
  have hsz := ok.size
  refine ⟨by rw [List.length_set, relK_len]; exact ok.len, by rw [List.length_set]; exact ok.many, ok.size, fun c hc => ?_, fun i hi => ?_, fun xs hx => ?_⟩
  · rcases List.mem_or_eq_of_mem_set hc with h | h
    · exact ok.pos c h
    · omega
  · rw [nthS hb] at hi
    unfold relK
    by_cases e : i = b
    · rw [if_pos e] at hi
      rw [if_pos hi, getDS (by rw [ok.len]; exact hb), if_pos e]
    · rw [if_neg e] at hi
      split
      · rw [getDS (by rw [ok.len]; exact hb), if_neg e]; exact ok.empty i hi
      · exact ok.empty i hi
  · unfold relK at hx
    split at hx
    · rcases List.mem_or_eq_of_mem_set hx with h | h
      · exact ok.full xs h
      · rw [h]
        show (0 : Int) ≤ size
        omega
    · exact ok.full xs hx
theorem SOk.kept {size : Int} {cs : List Int} {kv : List (List V)} (ok : SOk size cs kv) {b : Nat} {xs : List V} (hb : b < cs.length) (hn : nth cs ((b : Nat) : Int) ≠ 0) (hx : (xs.length : Int) ≤ size) : SOk size cs (kv.set b xs) := by
  refine ⟨by rw [List.length_set]; exact ok.len, ok.many, ok.size, ok.pos, fun i hi => ?_, fun ys hy => ?_⟩
  · rw [getDS (by rw [ok.len]; exact hb)]
    by_cases e : i = b
    · rw [e] at hi; exact absurd hi hn
    · rw [if_neg e]; exact ok.empty i hi
  · rcases List.mem_or_eq_of_mem_set hy with h | h
    · exact ok.full ys h
    · rw [h]; exact hx
theorem SOk.getD_full {size : Int} {cs : List Int} {kv : List (List V)} (ok : SOk size cs kv) (b : Nat) : ((kv.getD b []).length : Int) ≤ size := by
  by_cases h : b < kv.length
  · exact ok.full _ (by rw [List.getD_eq_getElem?_getD, List.getElem?_eq_getElem h]; exact List.getElem_mem _)
  · rw [List.getD_eq_getElem?_getD, List.getElem?_eq_none (by omega)]
    have := ok.size
    show (0 : Int) ≤ size
    omega

/-! ### nets drawn from a pool -/
theorem IsPool.same {H H' : Hp} {p : Addr} (s : Same H H') (h : IsPool H p) : IsPool H' p := by
  obtain ⟨ns, h1, h2⟩ := h
  exact ⟨ns, s _ _ h1, h2⟩
theorem IsPool.ne {H : Hp} {p D : Addr} (h : IsPool H p) (hD : H D = none) : D ≠ p := fun e => by
  obtain ⟨ns, h1, _⟩ := h
  rw [e, h1] at hD
  cases hD
theorem IsPool.nt {H : Hp} {p : Addr} (h : IsPool H p) : NTup (H p) := by
  obtain ⟨ns, h1, _⟩ := h
  exact NTup.lst h1
theorem IsPool.upd {H : Hp} {p D : Addr} {o : HO} (h : IsPool H p) (n : D ≠ p) : IsPool (L2.upd H D o) p := by
  obtain ⟨ns, h1, h2⟩ := h
  exact ⟨ns, (upd_ne (Ne.symm n)).trans h1, h2⟩
theorem _root_.L2.Fr.mut {t D : Addr} {H H' : Hp} {o : HO} (f : Fr t H H') (hD : H D = none) : Fr t H (L2.upd H' D o) := fun b u n e => by
  rw [upd_ne (ne_of_none e hD)]
  exact f b u n e
section
variable {K : PySem.W.Frag} {σ : L2.St} {H : Hp} {te : TE} {vs : List Nat} {Q : VK} {j : Nat}
/-- a comprehension over range(n) that draws -/
theorem c_poolR {α : Type} {R : Rep α} {n : Int} {p : Addr} (P : α → Prop) (hm : RMono R) (ht : RTup R) (hp : IsPool H p) (h1 : -(2 ^ 62) ≤ n) (h2 : n < 16000000) (hw : ∀ x : V, wipe ((wipe σ vs).set j (some x)) vs = wipe σ vs)
    (hs : ∀ (i : Nat) H1 (N : VK), (i : Int) < n → Fr p H H1 → IsPool H1 p → (∀ y (d : α) H4, Fr p H1 H4 → IsPool H4 p → R H4 y d → P d → N y H4) → te ((wipe σ vs).set j (some (.int (i : Int)))) H1 N)
    (k : ∀ D H' ys (ds : List α), H D = none → Fr p H H' → IsPool H' p → H' D = some (.lst ys) → ys.length = n.toNat → ds.length = n.toNat → (∀ (i : Nat) y d, ys[i]? = some y → ds[i]? = some d → R H' y d) → (∀ d ∈ ds, P d) → Q (.ref D) H') :
    ∃ j' : Int, [V.int n] = [.int j'] ∧ -(2 ^ 62) ≤ j' ∧ j' < 2 ^ 62 ∧ CompOk (Itr 0 j'.toNat) (gName j) tYes te vs σ H Q := by
  refine l_compGR h1 h2 (fun D i acc H' => acc.length = i ∧ H' D = some (.lst acc) ∧ ∃ ds : List α, ds.length = i ∧ Fr p H H' ∧ IsPool H' p ∧ (∀ (i : Nat) y d, acc[i]? = some y → ds[i]? = some d → R H' y d) ∧ ∀ d ∈ ds, P d) hw
    (fun D hD => ⟨rfl, upd_same, [], rfl, Fr.same (Same.new hD), hp.upd (hp.ne hD), fun i y d h _ => by simp at h, List.forall_mem_nil _⟩)
    (fun i H1 D acc NT NF hi hD ⟨hl, hD1, ds, hdl, f1, hp1, hr, hP⟩ e1 _ hT hF => ?_) (fun D H' ys hD ⟨hl, hD1, ds, hdl, f1, hp1, hr, hP⟩ e1 _ => k D H' ys ds hD f1 hp1 e1 hl hdl hr hP)
  have hDp := hp.ne hD
  show te _ H1 NT
  refine hs i H1 NT hi f1 hp1 fun y d H4 f4 hp4 r4 p4 => ?_
  have e4 := f4 _ _ hDp e1
  refine hT y H4 e4 ⟨by rw [List.length_append, hl]; rfl, upd_same, ds ++ [d], by rw [List.length_append, hdl]; rfl, (f1.trans f4).mut hD, hp4.upd hDp, fun i' y' d' h1 h2 => ?_, fun d' hd => ?_⟩
  · refine RTup.upd ht hm (NTup.lst e4) ?_
    by_cases hj : i' < i
    · rw [List.getElem?_append_left (by omega)] at h1 h2
      exact Fr.rep hm ht f4 hp1.nt (hr i' y' d' h1 h2)
    · have hj1 := (List.getElem?_eq_some_iff.mp h1).1
      rw [List.length_append] at hj1
      have ej : i' = i := by
        have : i' < acc.length + 1 := hj1
        omega
      subst ej
      rw [List.getElem?_append_right (by omega), hl, Nat.sub_self] at h1
      rw [List.getElem?_append_right (by omega), hdl, Nat.sub_self] at h2
      cases h1
      cases h2
      exact r4
  · rcases List.mem_append.mp hd with h | h
    · exact hP d' h
    · rw [List.mem_singleton.mp h]; exact p4
end

/-! ### the heap without some cells -/
def hs : List Addr → Hp → Hp
  | [], H => H
  | a :: S, H => hide a (hs S H)
theorem hs_same : ∀ (S : List Addr) (H : Hp), Same (hs S H) H
  | [], H => Same.refl H
  | a :: S, H => (hide_same a (hs S H)).trans (hs_same S H)
theorem hs_at {a : Addr} {H : Hp} : ∀ {S : List Addr}, a ∈ S → hs S H a = none
  | b :: S, h => by
    show hide b (hs S H) a = none
    by_cases e : a = b
    · rw [e]; exact hide_at _ _
    · rw [hide_ne e]
      exact hs_at ((List.mem_cons.mp h).resolve_left e)
theorem hs_ne {a : Addr} {H : Hp} : ∀ {S : List Addr}, a ∉ S → hs S H a = H a
  | [], _ => rfl
  | b :: S, h => by
    show hide b (hs S H) a = H a
    rw [hide_ne (fun e => h (by rw [e]; exact List.mem_cons_self))]
    exact hs_ne fun q => h (List.mem_cons_of_mem _ q)
theorem hs_mono {H H' : Hp} (s : Same H H') : ∀ S : List Addr, Same (hs S H) (hs S H')
  | [] => s
  | _ :: S => hide_mono (hs_mono s S)
/-- all but some cells stand -/
def FrS (S : List Addr) (H H' : Hp) : Prop := Same (hs S H) H'
theorem FrS.hs {S : List Addr} {H H' : Hp} (f : FrS S H H') : Same (hs S H) (hs S H') := fun b o e => by
  have hb : b ∉ S := fun h => by rw [hs_at h] at e; cases e
  rw [hs_ne hb]
  exact f b o e
theorem FrS.same {S : List Addr} {H H' : Hp} (s : Same H H') : FrS S H H' := (hs_same S H).trans s
theorem FrS.trans {S : List Addr} {H H' H'' : Hp} (f : FrS S H H') (g : FrS S H' H'') : FrS S H H'' := f.hs.trans g
theorem FrS.of {S : List Addr} {a : Addr} {H H' : Hp} (f : Fr a H H') (h : a ∈ S) : FrS S H H' := fun b o e => by
  have hb : b ∉ S := fun q => by rw [hs_at q] at e; cases e
  rw [hs_ne hb] at e
  exact f b o (fun z => hb (z ▸ h)) e
theorem FrS.upd {S : List Addr} {a : Addr} {H H' : Hp} (f : FrS S H H') (o : HO) (h : a ∈ S) : FrS S H (L2.upd H' a o) := f.trans (FrS.of ((Fr.refl _ _).upd o) h)
theorem nt_hs {S : List Addr} {a : Addr} {H : Hp} (h : NTup (H a)) : NTup (hs S H a) := by
  by_cases q : a ∈ S
  · rw [hs_at q]; trivial
  · rw [hs_ne q]; exact h
theorem rep_hs {α : Type} {R : Rep α} (ht : RTup R) {H : Hp} {v : V} {x : α} (r : R H v x) : ∀ {S : List Addr}, (∀ a ∈ S, NTup (H a)) → R (hs S H) v x
  | [], _ => r
  | a :: S, h => ht _ _ _ _ (nt_hs (h a List.mem_cons_self)) (rep_hs ht r fun b hb => h b (List.mem_cons_of_mem _ hb))
theorem sq_hs {S : List Addr} {H : Hp} {b : Bool} {K : PySem.W.Frag} {a : Addr} {xs : List V} (n : a ∉ S) (h : Sq b K H a xs) : Sq b K (hs S H) a xs := by
  have e : hs S H a = H a := hs_ne n
  cases b with
  | true =>
    have h : SqL K H a xs := h
    rcases h with (h | ⟨o, h⟩) | h
    · exact .inl (.inl (e.trans h))
    · exact .inl (.inr ⟨o, e.trans h⟩)
    · exact .inr h
  | false =>
    have h : SqT K H a xs := h
    rcases h with (h | ⟨o, h⟩) | h
    · exact .inl (.inl (e.trans h))
    · exact .inl (.inr ⟨o, e.trans h⟩)
    · exact .inr h
theorem seq_hs {α : Type} {R : Rep α} (ht : RTup R) {S : List Addr} {H : Hp} {b : Bool} {K : PySem.W.Frag} {a : Addr} {ds : List α} (n : a ∉ S) (h : ∀ c ∈ S, NTup (H c)) (r : RSeq b K R H (.ref a) ds) : RSeq b K R (hs S H) (.ref a) ds := by
  obtain ⟨_, vs, e, h1, h2, h3⟩ := r
  cases e
  exact ⟨a, vs, rfl, sq_hs n h1, h2, fun i y x e1 e2 => rep_hs ht (h3 i y x e1 e2) h⟩
/-- values beside data, one by one -/
def RA {δ : Type} (P : V → δ → Prop) (vs : List V) (ds : List δ) : Prop := vs.length = ds.length ∧ ∀ (i : Nat) y d, vs[i]? = some y → ds[i]? = some d → P y d
theorem RA.nil {δ : Type} {P : V → δ → Prop} : RA P [] [] := ⟨rfl, fun i y d h => by simp at h⟩
theorem RA.one {δ : Type} {P : V → δ → Prop} {v : V} {d : δ} (h : P v d) : RA P [v] [d] := ⟨rfl, fun i y e h1 h2 => by
  match i, h1, h2 with
  | 0, h1, h2 => cases h1; cases h2; exact h
  | i + 1, h1, _ => simp at h1⟩
theorem RA.app {δ : Type} {P : V → δ → Prop} {vs vs' : List V} {ds ds' : List δ} (h : RA P vs ds) (h' : RA P vs' ds') : RA P (vs ++ vs') (ds ++ ds') := by
  refine ⟨by rw [List.length_append, List.length_append, h.1, h'.1], fun i y d h1 h2 => ?_⟩
  have hl := h.1
  by_cases hi : i < vs.length
  · rw [List.getElem?_append_left hi] at h1
    rw [List.getElem?_append_left (by omega)] at h2
    exact h.2 i y d h1 h2
  · rw [List.getElem?_append_right (by omega)] at h1
    rw [List.getElem?_append_right (by omega), ← hl] at h2
    exact h'.2 _ y d h1 h2
theorem RA.take {δ : Type} {P : V → δ → Prop} {vs : List V} {ds : List δ} (h : RA P vs ds) (n : Nat) : RA P (vs.take n) (ds.take n) := by
  refine ⟨by rw [List.length_take, List.length_take, h.1], fun i y d h1 h2 => ?_⟩
  have hi := (List.getElem?_eq_some_iff.mp h1).1
  rw [List.length_take] at hi
  rw [List.getElem?_take_of_lt (by omega)] at h1 h2
  exact h.2 i y d h1 h2
theorem RA.drop {δ : Type} {P : V → δ → Prop} {vs : List V} {ds : List δ} (h : RA P vs ds) (n : Nat) : RA P (vs.drop n) (ds.drop n) := by
  refine ⟨by rw [List.length_drop, List.length_drop, h.1], fun i y d h1 h2 => ?_⟩
  rw [List.getElem?_drop] at h1 h2
  exact h.2 _ y d h1 h2
theorem RA.imp {δ : Type} {P P' : V → δ → Prop} {vs : List V} {ds : List δ} (h : RA P vs ds) (q : ∀ y d, P y d → P' y d) : RA P' vs ds := ⟨h.1, fun i y d h1 h2 => q y d (h.2 i y d h1 h2)⟩
theorem RA.map {δ ε : Type} {P : V → ε → Prop} {f : δ → ε} {vs : List V} {ds : List δ} (h : RA (fun y d => P y (f d)) vs ds) : RA P vs (ds.map f) := by
  refine ⟨by rw [List.length_map]; exact h.1, fun i y d h1 h2 => ?_⟩
  rw [List.getElem?_map] at h2
  cases e : ds[i]? with
  | none => rw [e] at h2; cases h2
  | some d' => rw [e] at h2; cases h2; exact h.2 i y d' h1 e
theorem FrS.at {S : List Addr} {H H' : Hp} {b : Addr} {o : HO} (f : FrS S H H') (n : b ∉ S) (h : H b = some o) : H' b = some o := f b o ((hs_ne n).trans h)
theorem FrS.mut {S : List Addr} {H H' : Hp} {D : Addr} {o : HO} (f : FrS S H H') (h : H D = none) : FrS S H (L2.upd H' D o) := fun b u e => by
  rw [upd_ne (ne_of_none ((hs_same S H) b u e) h)]
  exact f b u e
theorem tup_not {S : List Addr} {H : Hp} {t : Addr} {xs : List V} (hn : ∀ c ∈ S, NTup (H c)) (h : H t = some (.tup xs)) : t ∉ S := fun m => by
  have := hn t m
  rw [h] at this
  exact this
theorem hs_hide {S : List Addr} {p : Addr} {H : Hp} (h : p ∈ S) : Same (hs S H) (hide p H) := fun b o e => by
  have hb : b ≠ p := fun z => by rw [z, hs_at h] at e; cases e
  rw [hide_ne hb]
  exact hs_same S H b o e
theorem RA.push {δ : Type} {P : V → δ → Prop} {vs : List V} {ds : List δ} {v : V} {d : δ} (h : RA P vs ds) (p : P v d) : RA P (vs ++ [v]) (ds ++ [d]) := h.app (RA.one p)
theorem RA.seqT {K : PySem.W.Frag} {α δ : Type} {R : Rep α} {H : Hp} {f : δ → α} {vs : List V} {ds : List δ} {t : Addr} (h : RA (fun y d => R H y (f d)) vs ds) (e : Sq false K H t vs) : RSeq false K R H (.ref t) (ds.map f) :=
  ⟨t, vs, rfl, e, by rw [List.length_map]; exact h.1, fun i y x h1 h2 => by
    rw [List.getElem?_map] at h2
    cases e : ds[i]? with
    | none => rw [e] at h2; cases h2
    | some d => rw [e] at h2; cases h2; exact h.2 i y d h1 e⟩
theorem FrS.up {S S' : List Addr} {H H' : Hp} (f : FrS S H H') (h : ∀ c ∈ S, c ∈ S') : FrS S' H H' := fun b o e => by
  have hb : b ∉ S' := fun q => by rw [hs_at q] at e; cases e
  rw [hs_ne hb] at e
  exact f.at (fun q => hb (h b q)) e

/-! ### all but one place stands -/
theorem frSqN {t : Addr} {H H' : Hp} {b : Bool} {K : PySem.W.Frag} {a : Addr} {xs : List V} (f : Fr t H H') (ht : a ≠ t) (h : Sq b K H a xs) : Sq b K H' a xs := by
  cases b with
  | true =>
    have h : SqL K H a xs := h
    rcases h with (h | ⟨o, h⟩) | h
    · exact .inl (.inl (f _ _ ht h))
    · exact .inl (.inr ⟨o, f _ _ ht h⟩)
    · exact .inr h
  | false =>
    have h : SqT K H a xs := h
    rcases h with (h | ⟨o, h⟩) | h
    · exact .inl (.inl (f _ _ ht h))
    · exact .inl (.inr ⟨o, f _ _ ht h⟩)
    · exact .inr h
theorem fr_none {t c : Addr} {H H' : Hp} (f : Fr t H H') (n : c ≠ t) (h : H' c = none) : H c = none := by
  cases e : H c with
  | none => rfl
  | some u => rw [f _ _ n e] at h; cases h

/-! ### the tree over the heap -/
def RKey : Rep Path := fun H v p => ∃ a, v = .ref a ∧ H a = some (.tup ((natI p).map V.int))
theorem w_din {σ : L2.St} {H : Hp} {td ty : TE} {Q : VK} (q : ty σ H fun y H1 => td σ H1 fun x H2 => ∃ a o, x = .ref a ∧ DGet H2 a y o ∧ Q (.bl o.isSome) H2) : tDIn ty td σ H Q := q
theorem w_dget2 {σ : L2.St} {H : Hp} {td ty tx : TE} {Q : VK} (q : td σ H fun x H1 => ∃ a, x = .ref a ∧ IsD H1 a ∧ ty σ H1 fun y H2 => tx σ H2 fun z H3 => ∃ o, DGet H3 a y o ∧ Q (o.getD z) H3) : tDGet2 td ty tx σ H Q := q
theorem RKey.mono : RMono RKey := fun _ _ _ _ s ⟨a, e, h⟩ => ⟨a, e, s _ _ h⟩
theorem RKey.tup : RTup RKey := fun H D _ _ hD ⟨a, e, h⟩ => ⟨a, e, by
  rw [hide_ne fun z => by rw [← z, h] at hD; exact hD]; exact h⟩
theorem w_tupTq {K : PySem.W.Frag} {H : Hp} {Q : VK} {b : Bool} {a : Addr} {xs : List V} (h : Tq b K H a xs) (q : ∀ p H', Same H H' → H' p = some (.tup xs) → Q (.ref p) H') : rTupS K [.ref a] H Q := by
  cases b with
  | true => exact w_tupL h fun l hl => q _ _ (Same.new hl) upd_same
  | false => exact w_tupT (Sq.tup h) (q _ _ (Same.refl _) h)
def natV (n : Nat) : V := .int (n : Int)
/-- a dict whose keys are paths, the values numbers -/
structure DN (kvs : List (List Key × V)) (f : Path → Option Nat) : Prop where
  nod : (kvs.map (·.1)).Nodup
  key : ∀ k ∈ kvs.map (·.1), ∃ p, k = keyI p ∧ (f p).isSome = true
  val : ∀ p, valV kvs (keyI p) = (f p).map natV
theorem DN.nil : DN [] fun _ => none := ⟨List.nodup_nil, fun k h => (by cases h), fun p => rfl⟩
theorem putK_keys (kvs : List (List Key × V)) (k : List Key) (v : V) : (k ∈ kvs.map (·.1) ∧ (putK kvs k v).map (·.1) = kvs.map (·.1)) ∨ (k ∉ kvs.map (·.1) ∧ (putK kvs k v).map (·.1) = kvs.map (·.1) ++ [k]) := by
  unfold putK
  by_cases h : (kvs.any fun kv => decide (kv.1 = k)) = true
  · obtain ⟨kv, h1, h2⟩ := List.any_eq_true.mp h
    refine .inl ⟨List.mem_map.mpr ⟨kv, h1, of_decide_eq_true h2⟩, ?_⟩
    rw [if_pos h, List.map_map]
    refine List.map_congr_left fun kv _ => ?_
    show (if kv.1 = k then (kv.1, v) else kv).1 = kv.1
    split <;> rfl
  · refine .inr ⟨fun e => h ?_, ?_⟩
    · obtain ⟨kv, h1, h2⟩ := List.mem_map.mp e
      exact List.any_eq_true.mpr ⟨kv, h1, decide_eq_true h2⟩
    · rw [if_neg h, List.map_append]
      rfl
theorem DN.put {kvs : List (List Key × V)} {f : Path → Option Nat} (h : DN kvs f) (p : Path) (n : Nat) : DN (putK kvs (keyI p) (.int (n : Int))) fun q => if q = p then some n else f q := by
  have hk := putK_keys kvs (keyI p) (.int (n : Int))
  refine ⟨?_, fun k hm => ?_, fun q => ?_⟩
  · rcases hk with ⟨_, e⟩ | ⟨hn, e⟩
    · rw [e]; exact h.nod
    · rw [e]
      refine List.nodup_append.mpr ⟨h.nod, List.nodup_cons.mpr ⟨List.not_mem_nil, List.nodup_nil⟩, fun a ha b hb => ?_⟩
      rw [List.mem_singleton.mp hb]
      intro z
      rw [z] at ha
      exact hn ha
  · have : k ∈ kvs.map (·.1) ∨ k = keyI p := by
      rcases hk with ⟨_, e⟩ | ⟨hn, e⟩
      · rw [e] at hm; exact .inl hm
      · rw [e] at hm
        rcases List.mem_append.mp hm with h | h
        · exact .inl h
        · exact .inr (List.mem_singleton.mp h)
    rcases this with m | m
    · obtain ⟨q, e, hq⟩ := h.key k m
      refine ⟨q, e, ?_⟩
      show (if q = p then some n else f q).isSome = true
      split
      · rfl
      · exact hq
    · exact ⟨p, m, by show (if p = p then some n else f p).isSome = true; rw [if_pos rfl]; rfl⟩
  · rw [valV_put]
    show _ = (if q = p then some n else f q).map _
    by_cases e : q = p
    · rw [if_pos (by rw [e]), if_pos e]; rfl
    · rw [if_neg (fun z => e (keyI_inj z)), if_neg e]; exact h.val q
theorem DN.len {kvs : List (List Key × V)} {f : Path → Option Nat} (h : DN kvs f) {ps : List Path} (hd : ∀ p, (f p).isSome = true → p ∈ ps) : kvs.length ≤ ps.length := by
  have := nodup_len (m := ps.map keyI) h.nod fun k hk => by
    obtain ⟨p, e, hp⟩ := h.key k hk
    rw [e]
    exact List.mem_map.mpr ⟨p, hd p hp, rfl⟩
  rw [List.length_map, List.length_map] at this
  exact this
theorem DN.congr {kvs : List (List Key × V)} {f g : Path → Option Nat} (h : DN kvs f) (e : ∀ p, f p = g p) : DN kvs g := by
  have : f = g := funext e
  rw [← this]; exact h
def TreeF (st ap au ad : Addr) (clock : Nat) : List (Str × V) := [("store", .ref st), ("paths", .ref ap), ("under", .ref au), ("used", .ref ad), ("clock", .int (clock : Int))]
def IsTree (C : Addr) (X : List Addr) (H : Hp) (t st au ad : Addr) (d : TreeD) : Prop := ∃ dx ap pvs ku kd, H t = some (.ins C dx (TreeF st ap au ad d.clock)) ∧ H ap = some (.lst pvs) ∧ RA (RKey H) pvs d.paths ∧ H au = some (.dT ku) ∧ DN ku d.under ∧ H ad = some (.dT kd) ∧ DN kd d.used ∧ au ≠ ad ∧ ap ∉ X
section
variable {C : Addr} {X S : List Addr} {H H' : Hp} {t st au ad : Addr} {d : TreeD}
theorem IsTree.same (s : Same H H') (h : IsTree C X H t st au ad d) : IsTree C X H' t st au ad d := by
  obtain ⟨dx, ap, pvs, ku, kd, h1, h2, h3, h4, h5, h6, h7, h8⟩ := h
  exact ⟨dx, ap, pvs, ku, kd, s _ _ h1, s _ _ h2, h3.imp fun y p r => RKey.mono _ _ _ _ s r, s _ _ h4, h5, s _ _ h6, h7, h8⟩
theorem IsTree.nt (h : IsTree C X H t st au ad d) : ∀ c ∈ [t, au, ad], NTup (H c) := fun c hc => by
  obtain ⟨dx, ap, pvs, ku, kd, h1, h2, h3, h4, h5, h6, h7, h8⟩ := h
  simp only [List.mem_cons, List.not_mem_nil, or_false] at hc
  rcases hc with rfl | rfl | rfl
  · exact NTup.ins h1
  · exact NTup.dT h4
  · exact NTup.dT h6
theorem IsTree.ne (h : IsTree C X H t st au ad d) : t ≠ au ∧ t ≠ ad ∧ au ≠ ad := by
  obtain ⟨dx, ap, pvs, ku, kd, h1, h2, h3, h4, h5, h6, h7, h8⟩ := h
  exact ⟨fun z => (by rw [z, h4] at h1; cases h1), fun z => (by rw [z, h6] at h1; cases h1), h8.1⟩
/-- no list is one of the tree's own cells -/
theorem IsTree.lst (h : IsTree C X H t st au ad d) {q : Addr} {xs : List V} (hq : H q = some (.lst xs)) : q ≠ t ∧ q ≠ au ∧ q ≠ ad := by
  obtain ⟨dx, ap, pvs, ku, kd, h1, h2, h3, h4, h5, h6, h7, h8⟩ := h
  exact ⟨fun z => (by rw [← z, hq] at h1; cases h1), fun z => (by rw [← z, hq] at h4; cases h4), fun z => (by rw [← z, hq] at h6; cases h6)⟩
theorem IsTree.frS (h : IsTree C X H t st au ad d) (f : FrS S H H') (hn : ∀ c ∈ S, NTup (H c)) (n1 : t ∉ S) (n2 : au ∉ S) (n3 : ad ∉ S) (hX : ∀ c ∈ S, c ∈ X) : IsTree C X H' t st au ad d := by
  obtain ⟨dx, ap, pvs, ku, kd, h1, h2, h3, h4, h5, h6, h7, h8, h9⟩ := h
  exact ⟨dx, ap, pvs, ku, kd, f.at n1 h1, f.at (fun z => h9 (hX _ z)) h2, h3.imp fun y p r => RKey.mono _ _ _ _ f (rep_hs RKey.tup r hn), f.at n2 h4, h5, f.at n3 h6, h7, h8, h9⟩
theorem FrS.of2 {a b : Addr} (f : Fr2 a b H H') (ha : a ∈ S) (hb : b ∈ S) : FrS S H H' := fun c o e => by
  have hc : c ∉ S := fun q => by rw [hs_at q] at e; cases e
  rw [hs_ne hc] at e
  exact f c o (fun z => hc (by rw [z]; exact ha)) (fun z => hc (by rw [z]; exact hb)) e
theorem storeV_frS {K : PySem.W.Frag} {CS s ac ak : Addr} {size : Int} {cs : List Int} {kv : List (List V)} (f : FrS S H H') (hn : ∀ c ∈ S, NTup (H c)) (n1 : s ∉ S) (n2 : ac ∉ S) (n3 : ak ∉ S) (h : IsStoreV K CS H s ac ak size cs kv) : IsStoreV K CS H' s ac ak size cs kv := by
  obtain ⟨dx, h1, h2, ⟨ks, g1, g2, g3⟩, h4⟩ := h
  refine ⟨dx, f.at n1 h1, f.at n2 h2, ⟨ks, f.at n3 g1, g2, fun i y n a b => ?_⟩, h4⟩
  obtain ⟨p, e, hp⟩ := g3 i y n a b
  refine ⟨p, e, Same.sq f ?_⟩
  have : ∀ {S : List Addr}, (∀ c ∈ S, NTup (H c)) → Sq false K (hs S H) p n := fun {S} => by
    induction S with
    | nil => exact fun _ => hp
    | cons c S ih => exact fun h => sq_hide (nt_hs (h c List.mem_cons_self)) (ih fun x hx => h x (List.mem_cons_of_mem _ hx))
  exact this hn
theorem IsTree.fr2 {K : PySem.W.Frag} {CS s ac ak : Addr} {size : Int} {cs : List Int} {kv : List (List V)} (h : IsTree C X H t st au ad d) (f : Fr2 ac ak H H') (hI : IsStoreV K CS H s ac ak size cs kv) (h1 : ac ∈ X) (h2 : ak ∈ X) : IsTree C X H' t st au ad d := by
  obtain ⟨dy, g1, g2, ⟨ks, g3, _⟩, _⟩ := hI
  obtain ⟨a1, a2, a3⟩ := h.lst g2
  obtain ⟨b1, b2, b3⟩ := h.lst g3
  refine h.frS (S := [ac, ak]) (FrS.of2 f (by simp) (by simp)) (fun c hc => ?_) (by simp [Ne.symm a1, Ne.symm b1]) (by simp [Ne.symm a2, Ne.symm b2]) (by simp [Ne.symm a3, Ne.symm b3]) fun c hc => ?_
  · simp only [List.mem_cons, List.not_mem_nil, or_false] at hc
    rcases hc with rfl | rfl
    · exact NTup.lst g2
    · exact NTup.lst g3
  · simp only [List.mem_cons, List.not_mem_nil, or_false] at hc
    rcases hc with rfl | rfl
    · exact h1
    · exact h2
theorem IsTree.ne_store {K : PySem.W.Frag} {CS s ac ak : Addr} {size : Int} {cs : List Int} {kv : List (List V)} (h : IsTree C X H t st au ad d) (hI : IsStoreV K CS H s ac ak size cs kv) : t ≠ s := fun e => by
  obtain ⟨dx, ap, pvs, ku, kd, h1, _⟩ := h
  obtain ⟨dy, g1, _⟩ := hI
  rw [e, g1] at h1
  injection h1 with h1
  injection h1 with _ _ h1
  unfold StoreF TreeF at h1
  injection h1 with h1
  injection h1 with h1
  exact absurd h1 (by decide +kernel)
end
theorem begD_stop {size : Nat} (hs : 1 ≤ size) {u : Path → Option Nat} {ls : Path} {j : Nat} (hj : j * size ≤ ls.length) (h : ∀ i, i < j → (u (ls.take ((i + 1) * size))).isSome = true) (he : ls.length < (j + 1) * size ∨ u (ls.take ((j + 1) * size)) = none) :
    begD size u ls = (List.range j).map fun i => ls.take ((i + 1) * size) := by
  have hjn : j ≤ ls.length / size := (Nat.le_div_iff_mul_le (by omega)).mpr hj
  unfold begD
  obtain ⟨r, hr⟩ : ∃ r, ls.length / size = j + r := ⟨ls.length / size - j, by omega⟩
  rw [hr, List.range_add, List.map_append, List.takeWhile_append_of_pos fun p hp => by
    obtain ⟨i, hi, rfl⟩ := List.mem_map.mp hp
    exact h i (List.mem_range.mp hi)]
  cases r with
  | zero => simp
  | succ r =>
    have hlt : (j + 1) * size ≤ ls.length := (Nat.le_div_iff_mul_le (by omega)).mp (by omega)
    have hn := he.resolve_left (by omega)
    rw [List.range_succ_eq_map]
    simp only [List.map_cons, Nat.add_zero, List.takeWhile_cons, hn, Option.isSome_none, Bool.false_eq_true, if_false, List.append_nil]
theorem RA.snoc {δ : Type} {P P' : V → δ → Prop} {vs : List V} {ds : List δ} {v : V} {d : δ} (h : RA P vs ds) (q : ∀ y d, P y d → P' y d) (p : P' v d) : RA P' (vs ++ [v]) (ds ++ [d]) := (h.imp q).push p
def sp_Tree_beginnings (K : PySem.W.Frag) (C CS : Addr) : Sp := fun vs H Q _ => ∃ (X : List Addr) (t st au ad ac ak a : Addr) (b : Bool) (d : TreeD) (size : Nat) (cs : List Int) (kv : List (List V)) (ls : Path), vs = [.ref t, .ref a] ∧ IsTree C X H t st au ad d ∧ IsStoreV K CS H st ac ak size cs kv ∧ 1 ≤ size ∧ size ≤ 8 ∧ Tq b K H a ((natI ls).map V.int) ∧ ls.length ≤ 10000 ∧
  ∀ D H' pvs, H D = none → Same H H' → H' D = some (.lst pvs) → RA (RKey H') pvs (begD size d.under ls) → Q (.ref D) H'
theorem ok_Tree_beginnings (T : Txt K mg) : FnOk P w K mg base CX0 1 T.a_Tree_beginnings T.d_Tree_beginnings ["self", "letters"] (sp_Tree_beginnings K T.c_Tree T.c_Store) := by
  refine T.F_Tree_beginnings.ok sc_Tree_beginnings (fun vs H Q E h => ?_) (fun cdv A outer s H vs Q E hr h => ?_)
  · obtain ⟨_, _, _, _, _, _, _, _, _, _, _, _, _, _, rfl, _⟩ := h
    rfl
  · obtain ⟨X, t, st, au, ad, ac, ak, a, b, d, size, cs, kv, ls, rfl, hT, hI, hs, hs8, hL, hll, k⟩ := h
    have cT := T.C_Tree
    have cS := T.C_Store
    have n1 := T.n_Tree_store
    have n2 := T.n_Tree_under
    have m2 := T.n_Store_size
    obtain ⟨dx, ap, pvs, ku, kd, h0, hap, hps, hau, hku, had, hkd, hne, hX⟩ := id hT
    obtain ⟨dy, g0, _⟩ := id hI
    unfold TreeF at h0
    unfold StoreF at g0
    have hnl := natI_len ls
    refine ⟨_, (pss_cons (ps_set (i := 1) sc_Tree_beginnings.nd rfl (Or.inl rfl) (pe_callTy (k_tupS (K := K) rfl) (by rfl) T.z_tuple (by decide +kernel) (pa_cons (pv 1) pa_nil)))
      (pss_cons (ps_set (i := 2) sc_Tree_beginnings.nd rfl (Or.inl rfl) (pe_lst pa_nil))
      (pss_cons (ps_set (i := 3) sc_Tree_beginnings.nd rfl (Or.inl rfl) (k_fld (K := K) rfl (k_fld (K := K) rfl (pv 0) rfl) rfl))
      (pss_cons (ps_while PassesOwn.never (PW.pt (pw_and (pt_cmpR op_le (pv 3) (pe_callB (k_lenS (K := K) rfl) (by rfl) T.z_len (by decide +kernel) (pa_cons (pv 1) pa_nil)) (nomark _)) (pw_and1 (pt_cmp (pc_din (u1 hr.units) (pe_slice (k_slG (K := K) rfl) (pv 1) po_none (po_some (pv 3))) (k_fld (K := K) rfl (pv 0) rfl)) rfl))))
      (pss_cons (ps_expr (k_bm (K := K) rfl PySem.F.plainAttrs_list PySem.F.slot_list_append PySem.F.type_list_append mt_append (pv 2) (pa_cons (pe_slice (k_slG (K := K) rfl) (pv 1) po_none (po_some (pv 3))) pa_nil)))
      (pss_one (ps_aug (i := 3) sc_Tree_beginnings.nd rfl (Or.inl rfl) (k_fld (K := K) rfl (k_fld (K := K) rfl (pv 0) rfl) rfl) ip_add))))
      (pss_one (ps_ret (pv 2))))))), ?_⟩
    refine go_start (σ' := [some (.ref t), some (.ref a), none, none]) rfl ?_
    try dsimp only [cxOf, Cx.nox, Cx.wish]
    clear hap hps had hkd
    walk_at "GO"
    refine w_tupTq hL fun p H1 s1 e1 => ?_
    have h1 := s1 _ _ h0
    have g1 := s1 _ _ g0
    walk_at "GO"
    rename_i D H2 hD s2 e2
    have h2 := s2 _ _ h1
    have g2 := s2 _ _ g1
    have hDH := none_back s1 hD
    have hau2 := (s1.trans s2) _ _ hau
    have e12 := s2 _ _ e1
    have hDu : D ≠ au := fun z => by rw [z, s1 _ _ hau] at hD; cases hD
    walk_at "GO"
    refine w_while (fun m σ H' => ∃ (j : Nat) (pvs : List V), m + j = ls.length + 1 ∧ σ = [some (.ref t), some (.ref p), some (.ref D), some (.int (((j + 1) * size : Nat) : Int))] ∧ j * size ≤ ls.length ∧ (∀ i, i < j → (d.under (ls.take ((i + 1) * size))).isSome = true) ∧ Same H1 H' ∧ H' D = some (.lst pvs) ∧ RA (RKey H') pvs ((List.range j).map fun i => ls.take ((i + 1) * size)))
      (ls.length + 1) ⟨0, [], rfl, by rw [Nat.zero_add, Nat.one_mul]; rfl, by omega, fun i h => absurd h (Nat.not_lt_zero i), s2, e2, RA.nil⟩ ?_
    clear h2 g2 hau2 e12 e2 s2
    rintro m σ H3 ⟨j, pvs, hmj, rfl, hj, hju, s3, e3, r3⟩
    have h3 := s3 _ _ h1
    have g3 := s3 _ _ g1
    have p3 := s3 _ _ e1
    have au3 := s3 _ _ (s1 _ _ hau)
    have hSp : Sq false K H3 p ((natI ls).map V.int) := Sq.tup p3
    have ej : (j + 1) * size = j * size + size := by rw [Nat.add_mul, Nat.one_mul]
    have hjs : j + 1 ≤ (j + 1) * size := Nat.le_mul_of_pos_right _ hs
    walk_at "GO"
    refine w_iteD (fun hle => ?_) (fun hgt => ?_)
    · have hle : (j + 1) * size ≤ ls.length := by omega
      have hcut : cutV ((natI ls).map V.int) none (some (((j + 1) * size : Nat) : Int)) = (natI (ls.take ((j + 1) * size))).map V.int := by
        rw [cutV_upto (by rw [List.length_map, natI_len]; exact hle)]
        unfold natI
        rw [← List.map_take, ← List.map_take]
      walk_at "GO"
      refine w_din ?_
      walk_at "GO"
      refine w_slTq (b := false) (ys := (natI (ls.take ((j + 1) * size))).map V.int) (show Tq false K H3 p _ from p3) hcut fun q1 H4 s4 h4 => ?_
      have h4 : H4 q1 = some (.tup ((natI (ls.take ((j + 1) * size))).map V.int)) := h4
      rw [← keyI_V] at h4
      have t4 := s4 _ _ h3
      walk_at "GO"
      refine ⟨au, _, rfl, DGet.t (s4 _ _ au3) h4, ?_⟩
      rw [hku.val]
      have s14 := s3.trans s4
      have D4 := s4 _ _ e3
      have p4 := s4 _ _ p3
      have g4 := s4 _ _ g3
      have r4 := r3.imp fun y d h => RKey.mono _ _ _ _ s4 h
      clear h3 g3 p3 au3 hSp e3 s3 r3 s4
      cases hu : d.under (ls.take ((j + 1) * size)) with
      | none =>
        walk_at "GO"
        rw [show (Option.map natV none).isSome = false from rfl, if_neg (by decide)]
        walk_at "GO"
        refine k D H4 _ hDH (s1.trans s14) D4 ?_
        rw [begD_stop hs hj hju (.inr hu)]
        exact r4
      | some n =>
        walk_at "GO"
        rw [show (Option.map natV (some n)).isSome = true from rfl, if_pos rfl]
        refine ⟨_, fun _ _ h => h, ?_⟩
        walk_at "GO"
        refine w_slTq (b := false) (ys := (natI (ls.take ((j + 1) * size))).map V.int) (show Tq false K H4 p _ from p4) hcut fun q2 H5 s5 h5 => ?_
        have h5 : H5 q2 = some (.tup ((natI (ls.take ((j + 1) * size))).map V.int)) := h5
        have D5 := s5 _ _ D4
        have t5 := s5 _ _ t4
        have g5 := s5 _ _ g4
        have hDt : D ≠ t := fun z => by rw [z, t4] at D4; cases D4
        have hDs : D ≠ st := fun z => by rw [z, g4] at D4; cases D4
        have hDq : q2 ≠ D := fun z => by rw [z, D5] at h5; cases h5
        walk_at "GO"
        refine w_append D5 (line_of (by have := r4.1; rw [List.length_map, List.length_range] at this; have : j ≤ j * size := Nat.le_mul_of_pos_right _ hs; omega)) ?_
        have t6 := (upd_ne (o := .lst (pvs ++ [.ref q2])) (Ne.symm hDt)).trans t5
        have g6 := (upd_ne (o := .lst (pvs ++ [.ref q2])) (Ne.symm hDs)).trans g5
        have D6 : upd H5 D (.lst (pvs ++ [.ref q2])) D = some (.lst (pvs ++ [.ref q2])) := upd_same
        have s6 : Same H1 (upd H5 D (.lst (pvs ++ [.ref q2]))) := Same.mut (s14.trans s5) hD
        have r6 : RA (RKey (upd H5 D (.lst (pvs ++ [.ref q2])))) (pvs ++ [.ref q2]) (((List.range j).map fun i => ls.take ((i + 1) * size)) ++ [ls.take ((j + 1) * size)]) := r4.snoc (fun y d h => RTup.upd RKey.tup RKey.mono (NTup.lst D5) (RKey.mono _ _ _ _ s5 h)) ⟨q2, rfl, (upd_ne hDq).trans h5⟩
        clear t4 g4 D4 p4 r4 D5 t5 g5 h5 s5 s14
        generalize upd H5 D (.lst (pvs ++ [.ref q2])) = H6 at t6 g6 D6 s6 r6 ⊢
        walk_at "GO"
        refine ⟨ls.length + 1 - (j + 1), by omega, j + 1, _, by omega, by rw [show ((((j + 1) * size : Nat) : Int) + (size : Int)) = (((j + 1 + 1) * size : Nat) : Int) by rw [Nat.add_mul (j + 1), Nat.one_mul]; omega]; rfl, hle, fun i hi => ?_, s6, D6, by rw [List.range_succ, List.map_append]; exact r6⟩
        by_cases e : i = j
        · rw [e, hu]; rfl
        · exact hju i (by omega)
    · walk_at "GO"
      refine k D H3 _ hDH (s1.trans s3) e3 ?_
      rw [begD_stop hs hj hju (.inl (by omega))]
      exact r3
/-! ### len, iter -/
def sp_Tree___len__ (C : Addr) : Sp := fun vs H Q _ => ∃ (X : List Addr) (t st au ad : Addr) (d : TreeD), vs = [.ref t] ∧ IsTree C X H t st au ad d ∧ Q (.int ((d.paths.length : Nat) : Int)) H
theorem ok_Tree___len__ (T : Txt K mg) : FnOk P w K mg base CX0 1 T.a_Tree___len__ T.d_Tree___len__ ["self"] (sp_Tree___len__ T.c_Tree) := by
  refine T.F_Tree___len__.ok sc_Tree___len__ (fun vs H Q E h => ?_) (fun cdv A outer s H vs Q E hr h => ?_)
  · obtain ⟨_, _, _, _, _, _, rfl, _⟩ := h
    rfl
  · obtain ⟨X, t, st, au, ad, d, rfl, hT, k⟩ := h
    have cT := T.C_Tree
    have n1 := T.n_Tree_paths
    obtain ⟨dx, ap, pvs, ku, kd, h0, hap, hps, _⟩ := id hT
    unfold TreeF at h0
    have hl := hps.1
    refine ⟨_, (pss_one (ps_ret (pe_callB (k_lenS (K := K) rfl) (by rfl) T.z_len (by decide +kernel) (pa_cons (k_fld (K := K) rfl (pv 0) rfl) pa_nil)))), ?_⟩
    refine go_start (σ' := [some (.ref t)]) rfl ?_
    try dsimp only [cxOf, Cx.nox, Cx.wish]
    walk_at "GO"
    rw [hl]
    exact k
def sp_Tree___iter__ (C : Addr) : Sp := fun vs H Q _ => ∃ (t dx st ap au ad : Addr) (clock : Nat) (pvs : List V), vs = [.ref t] ∧ H t = some (.ins C dx (TreeF st ap au ad clock)) ∧ H ap = some (.lst pvs) ∧ ∀ it, H it = none → Q (.ref it) (upd H it (ItO ap it 0))
theorem ok_Tree___iter__ (T : Txt K mg) : FnOk P w K mg base CX0 1 T.a_Tree___iter__ T.d_Tree___iter__ ["self"] (sp_Tree___iter__ T.c_Tree) := by
  refine T.F_Tree___iter__.ok sc_Tree___iter__ (fun vs H Q E h => ?_) (fun cdv A outer s H vs Q E hr h => ?_)
  · obtain ⟨_, _, _, _, _, _, _, _, rfl, _⟩ := h
    rfl
  · obtain ⟨t, dx, st, ap, au, ad, clock, pvs, rfl, h0, hap, k⟩ := h
    have cT := T.C_Tree
    have n1 := T.n_Tree_paths
    unfold TreeF at h0
    refine ⟨_, (pss_one (ps_ret (pe_callB (k_iterL (K := K) rfl) (by rfl) T.z_iter (by decide +kernel) (pa_cons (k_fld (K := K) rfl (pv 0) rfl) pa_nil)))), ?_⟩
    refine go_start (σ' := [some (.ref t)]) rfl ?_
    try dsimp only [cxOf, Cx.nox, Cx.wish]
    walk_at "GO"
    exact ⟨ap, pvs, rfl, SqL.of hap, fun it hit => k it hit⟩
/-- list(tree) -/
theorem w_listTree {C : Addr} {X : List Addr} {H : Hp} {Q : VK} {t st au ad : Addr} {d : TreeD} (h : IsTree C X H t st au ad d) (hz : d.paths.length ≤ 1000000) (q : ∀ p H' pvs, H p = none → Same H H' → H' p = some (.lst pvs) → RA (RKey H') pvs d.paths → Q (.ref p) H') : rListO C (sp_Tree___iter__ C) (sp_Tree___len__ C) [.ref t] H Q := by
  obtain ⟨dx, ap, pvs, ku, kd, h0, hap, hr, _⟩ := id h
  refine ⟨t, dx, _, rfl, h0, fun p hp => ?_⟩
  have s1 := Same.new (o := .lst []) hp
  have hlp : ap ≠ p := fun z => by rw [z, hp] at hap; cases hap
  refine ⟨t, dx, st, ap, au, ad, d.clock, pvs, rfl, s1 _ _ h0, s1 _ _ hap, fun it hit => ?_⟩
  have s2 := Same.new (o := ItO ap it 0) hit
  have hpi : p ≠ it := fun z => by rw [← z, upd_same] at hit; cases hit
  refine ⟨it, ap, pvs, rfl, upd_same, s2 _ _ (s1 _ _ hap), s2 _ _ upd_same, hlp, s2 _ _ (s1 _ _ h0), X, t, st, au, ad, d, rfl, (h.same s1).same s2, d.paths.length, rfl, hz, upd_same, s2 _ _ (s1 _ _ hap), s2 _ _ upd_same, ?_⟩
  rw [ItX.dropH_upd hit, upd_upd]
  have s3 := Same.new (o := .lst pvs) hp
  exact q p _ pvs hp s3 upd_same (hr.imp fun y d' r => RKey.mono _ _ _ _ s3 r)
/-! ### made, used, asked -/
def sp_Tree___init__ (C : Addr) : Sp := fun vs H Q _ => ∃ (t dx st : Addr), vs = [.ref t, .ref st] ∧ H t = some (.ins C dx []) ∧ ∀ H' au ad, Fr t H H' → H au = none → H ad = none → (∀ X : List Addr, (∀ x ∈ X, ∃ o, H x = some o) → IsTree C X H' t st au ad TreeD.nil) → Q .non H'
theorem ok_Tree___init__ (T : Txt K mg) : FnOk P w K mg base CX0 1 T.a_Tree___init__ T.d_Tree___init__ ["self", "store"] (sp_Tree___init__ T.c_Tree) := by
  refine T.F_Tree___init__.ok sc_Tree___init__ (fun vs H Q E h => ?_) (fun cdv A outer s H vs Q E hr h => ?_)
  · obtain ⟨_, _, _, rfl, _⟩ := h
    rfl
  · obtain ⟨t, dx, st, rfl, h0, k⟩ := h
    have cT := T.C_Tree
    have n1 := T.n_Tree_store
    have n2 := T.n_Tree_paths
    have n3 := T.n_Tree_under
    have n4 := T.n_Tree_used
    have n5 := T.n_Tree_clock
    refine ⟨_, (pss_cons (k_sfld (K := K) rfl (pv 0) (pv 1) rfl)
      (pss_cons (k_sfld (K := K) rfl (pv 0) (pe_lst pa_nil) rfl)
      (pss_cons (k_sfld (K := K) rfl (pv 0) pe_dnewT rfl)
      (pss_cons (k_sfld (K := K) rfl (pv 0) pe_dnewT rfl)
      (pss_one (k_sfld (K := K) rfl (pv 0) pe_int rfl)))))), ?_⟩
    refine go_start (σ' := [some (.ref t), some (.ref st)]) rfl ?_
    try dsimp only [cxOf, Cx.nox, Cx.wish]
    walk_at "GO"
    rename_i p H1 hp s1 e1
    have ht1 := s1 _ _ (upd_same (H := H) (a := t) (o := .ins T.c_Tree dx [("store", .ref st)]))
    have f1 : Fr t H H1 := ((Fr.refl _ _).upd _).trans (Fr.same s1)
    have hpt : p ≠ t := fun z => by rw [z, upd_same] at hp; cases hp
    have hp0 : H p = none := by rw [upd_ne hpt] at hp; exact hp
    clear hp s1
    walk_at "GO"
    have f2 := f1.upd (.ins T.c_Tree dx [("store", .ref st), ("paths", .ref p)])
    have ht2 : upd H1 t (.ins T.c_Tree dx [("store", .ref st), ("paths", .ref p)]) t = some (.ins T.c_Tree dx [("store", .ref st), ("paths", .ref p)]) := upd_same
    have e2 := (upd_ne (o := .ins T.c_Tree dx [("store", .ref st), ("paths", .ref p)]) hpt).trans e1
    generalize upd H1 t (.ins T.c_Tree dx [("store", .ref st), ("paths", .ref p)]) = H2 at f2 ht2 e2 ⊢
    clear f1 ht1 e1
    refine w_dnew fun au hau => ?_
    have hau0 : H au = none := fr_none f2 (fun z => by rw [z, ht2] at hau; cases hau) hau
    have haut : au ≠ t := fun z => by rw [z, ht2] at hau; cases hau
    have s3 := Same.new (o := .dT []) hau
    have a3 : upd H2 au (.dT []) au = some (.dT []) := upd_same
    generalize upd H2 au (.dT []) = H3 at s3 a3 ⊢
    have f3 := f2.trans (Fr.same s3)
    have ht3 := s3 _ _ ht2
    have e3 := s3 _ _ e2
    clear f2 ht2 e2 hau s3
    walk_at "GO"
    have f4 := f3.upd (.ins T.c_Tree dx [("store", .ref st), ("paths", .ref p), ("under", .ref au)])
    have ht4 : upd H3 t (.ins T.c_Tree dx [("store", .ref st), ("paths", .ref p), ("under", .ref au)]) t = some (.ins T.c_Tree dx [("store", .ref st), ("paths", .ref p), ("under", .ref au)]) := upd_same
    have e4 := (upd_ne (o := .ins T.c_Tree dx [("store", .ref st), ("paths", .ref p), ("under", .ref au)]) hpt).trans e3
    have a4 := (upd_ne (o := .ins T.c_Tree dx [("store", .ref st), ("paths", .ref p), ("under", .ref au)]) haut).trans a3
    generalize upd H3 t (.ins T.c_Tree dx [("store", .ref st), ("paths", .ref p), ("under", .ref au)]) = H4 at f4 ht4 e4 a4 ⊢
    clear f3 ht3 e3 a3
    refine w_dnew fun ad had => ?_
    have had0 : H ad = none := fr_none f4 (fun z => by rw [z, ht4] at had; cases had) had
    have hadt : ad ≠ t := fun z => by rw [z, ht4] at had; cases had
    have hada : au ≠ ad := fun z => by rw [← z, a4] at had; cases had
    have s5 := Same.new (o := .dT []) had
    have d5 : upd H4 ad (.dT []) ad = some (.dT []) := upd_same
    generalize upd H4 ad (.dT []) = H5 at s5 d5 ⊢
    have f5 := f4.trans (Fr.same s5)
    have ht5 := s5 _ _ ht4
    have e5 := s5 _ _ e4
    have a5 := s5 _ _ a4
    clear f4 ht4 e4 a4 had s5
    walk_at "GO"
    exact k _ au ad ((f5.upd _).upd _) hau0 had0 fun X hX => ⟨dx, p, [], [], [], upd_same, (upd_ne hpt).trans ((upd_ne hpt).trans e5), RA.nil, (upd_ne haut).trans ((upd_ne haut).trans a5), DN.nil, (upd_ne hadt).trans ((upd_ne hadt).trans d5), DN.nil, hada, fun m => (by obtain ⟨o, ho⟩ := hX p m; rw [ho] at hp0; cases hp0)⟩
def sp_Tree_use (K : PySem.W.Frag) (C : Addr) : Sp := fun vs H Q _ => ∃ (X : List Addr) (t st au ad D : Addr) (d : TreeD) (pvs : List V) (ps : List Path), vs = [.ref t, .ref D] ∧ IsTree C X H t st au ad d ∧ H D = some (.lst pvs) ∧ RA (RKey H) pvs ps ∧ (∀ p ∈ ps, p ∈ d.paths) ∧ (∀ p, (d.used p).isSome = true → p ∈ d.paths) ∧ d.paths.length ≤ 100000 ∧
  ∀ H', FrS [t, ad] H H' → IsTree C X H' t st au ad (d.use ps) → Q .non H'
theorem ok_Tree_use (T : Txt K mg) : FnOk P w K mg base CX0 1 T.a_Tree_use T.d_Tree_use ["self", "paths"] (sp_Tree_use K T.c_Tree) := by
  refine T.F_Tree_use.ok sc_Tree_use (fun vs H Q E h => ?_) (fun cdv A outer s H vs Q E hr h => ?_)
  · obtain ⟨_, _, _, _, _, _, _, _, _, rfl, _⟩ := h
    rfl
  · obtain ⟨X, t, st, au, ad, D, d, pvs, ps, rfl, hT, hD, hr1, hps, hu, hz, k⟩ := h
    have cT := T.C_Tree
    have n4 := T.n_Tree_used
    have n5 := T.n_Tree_clock
    obtain ⟨dx, ap, avs, ku, kd, h0, hap, hpr, hau, hku, had, hkd, hne, hX⟩ := id hT
    unfold TreeF at h0
    refine ⟨_, (pss_cons (k_fldaug (K := K) rfl (pv 0) pe_int in_add)
      (pss_one (ps_for PassesOwn.never rfl (k_seqS (K := K) rfl (pv 1)) (pg_name (i := 2) sc_Tree_use.nd rfl (Or.inl rfl))
      (pss_one (ps_dput (u1 hr.units) (k_fld (K := K) rfl (pv 0) rfl) (pv 2) (k_fld (K := K) rfl (pv 0) rfl) rfl))))), ?_⟩
    refine go_start (σ' := [some (.ref t), some (.ref D), none]) rfl ?_
    try dsimp only [cxOf, Cx.nox, Cx.wish]
    walk_at "GO"
    have c1 : (d.clock : Int) + 1 = ((d.clock + 1 : Nat) : Int) := rfl
    rw [c1]
    have hDt : D ≠ t := fun z => by rw [z, h0] at hD; cases hD
    have hDa : D ≠ ad := fun z => by rw [z, had] at hD; cases hD
    have htd : t ≠ ad := fun z => by rw [z, had] at h0; cases h0
    have htu : t ≠ au := fun z => by rw [z, hau] at h0; cases h0
    have hapt : ap ≠ t := fun z => by rw [z, h0] at hap; cases hap
    have hapd : ap ≠ ad := fun z => by rw [z, had] at hap; cases hap
    have hnt : ∀ c ∈ [t, ad], NTup (H c) := fun c hc => by
      simp only [List.mem_cons, List.not_mem_nil, or_false] at hc
      rcases hc with rfl | rfl
      · exact NTup.ins h0
      · exact NTup.dT had
    have F0 : FrS [t, ad] H (upd H t (.ins T.c_Tree dx (TreeF st ap au ad (d.clock + 1)))) := (FrS.same (Same.refl _)).upd _ (by simp)
    have hl := hr1.1
    refine l_seq (b := true) pvs (fun i σ H' => ∃ (y2 : Option V) (kd' : List (List Key × V)), σ = [some (.ref t), some (.ref D), y2] ∧ FrS [t, ad] H H' ∧ H' t = some (.ins T.c_Tree dx (TreeF st ap au ad (d.clock + 1))) ∧ H' ad = some (.dT kd') ∧ DN kd' (useF d.used (ps.take i) (d.clock + 1)))
      (Sq.lst ((upd_ne hDt).trans hD)) ⟨none, kd, rfl, F0, upd_same, (upd_ne (Ne.symm htd)).trans had, hkd.congr fun p => by unfold useF; rw [List.take_zero, if_neg List.not_mem_nil]⟩ (fun i σ H' _ ⟨_, _, _, f, _⟩ => Sq.lst (f.at (by simp [hDt, hDa]) hD)) ?_ ?_
    · clear F0
      rintro i x σ H1 hi hxi ⟨y2, kd', rfl, F1, ht1, hd1, hk1⟩
      obtain ⟨p, hp⟩ : ∃ p, ps[i]? = some p := ⟨_, List.getElem?_eq_getElem (by omega)⟩
      obtain ⟨a, rfl, ha⟩ := hr1.2 i x p hxi hp
      have ha1 := F1.at (tup_not hnt ha) ha
      rw [← keyI_V] at ha1
      have hpm := hps p (List.mem_of_getElem? hp)
      have hlen : kd'.length ≤ d.paths.length := hk1.len fun q hq => by
        unfold useF at hq
        by_cases e : q ∈ ps.take i
        · exact hps q (List.mem_of_mem_take e)
        · rw [if_neg e] at hq; exact hu q hq
      unfold TreeF at ht1
      walk_at "GO"
      refine ⟨ad, _, rfl, DPut.t hd1 ha1 (by rw [sizeLine_eq]; omega), ?_⟩
      walk_at "GO"
      refine ⟨_, _, rfl, F1.upd _ (by simp), (upd_ne htd).trans ht1, upd_same, (hk1.put p (d.clock + 1)).congr fun q => ?_⟩
      unfold useF
      rw [List.take_add_one, hp]
      by_cases e : q = p
      · rw [if_pos e, e, if_pos (by simp)]
      · rw [if_neg e]
        by_cases m : q ∈ ps.take i
        · rw [if_pos m, if_pos (List.mem_append.mpr (.inl m))]
        · rw [if_neg m, if_neg (fun h => (List.mem_append.mp h).elim m fun h => by simp at h; exact e h)]
    · clear F0
      rintro σ H1 ⟨y2, kd', rfl, F1, ht1, hd1, hk1⟩
      rw [hl, List.take_length] at hk1
      walk_at "GO"
      refine k H1 F1 ⟨dx, ap, avs, ku, kd', ht1, F1.at (by simp [hapt, hapd]) hap, hpr.imp fun y q r => ?_, F1.at (by simp [Ne.symm htu, hne]) hau, hku, hd1, hk1, hne, hX⟩
      exact RKey.mono _ _ _ _ F1 (rep_hs RKey.tup r hnt)

def sp_Tree_known (K : PySem.W.Frag) (C CS : Addr) : Sp := fun vs H Q _ => ∃ (X : List Addr) (t st au ad ac ak a : Addr) (b : Bool) (d : TreeD) (size : Nat) (cs : List Int) (kv : List (List V)) (ls : Path), vs = [.ref t, .ref a] ∧ IsTree C X H t st au ad d ∧ IsStoreV K CS H st ac ak size cs kv ∧ TreeOk size d ∧ size ≤ 8 ∧ Tq b K H a ((natI ls).map V.int) ∧ ls.length ≤ 10000 ∧ d.paths.length ≤ 100000 ∧
  ∀ v H', FrS [t, ad] H H' → IsTree C X H' t st au ad (d.use (begD size d.under ls)) → RVec false K H' v ((begD size d.under ls).map fun p => (((d.under p).getD 0 : Nat) : Int)) → Q v H'
theorem ok_Tree_known (T : Txt K mg) : FnOk P w K mg base CX0 2 T.a_Tree_known T.d_Tree_known ["self", "letters"] (sp_Tree_known K T.c_Tree T.c_Store) := by
  refine T.F_Tree_known.ok sc_Tree_known (fun vs H Q E h => ?_) (fun cdv A outer s H vs Q E hr h => ?_)
  · obtain ⟨_, _, _, _, _, _, _, _, _, _, _, _, _, _, rfl, _⟩ := h
    rfl
  · obtain ⟨X, t, st, au, ad, ac, ak, a, b, d, size, cs, kv, ls, rfl, hT, hI, ok, hs8, hL, hll, hz, k⟩ := h
    have cT := T.C_Tree
    have n2 := T.n_Tree_under
    obtain ⟨dx0, _, _, _, _, h0, _⟩ := id hT
    unfold TreeF at h0
    refine ⟨_, (pss_cons (ps_set (i := 2) sc_Tree_known.nd rfl (Or.inl rfl) (pe_meth (pv 0) T.C_Tree T.m_Tree_beginnings (ok_Tree_beginnings T) (hr.mono (by decide)) T.b_Tree_beginnings .nil pass0 (pa_cons (pv 1) pa_nil)))
      (pss_cons (ps_expr (pe_meth (pv 0) T.C_Tree T.m_Tree_use (ok_Tree_use T) (hr.mono (by decide)) T.b_Tree_use .nil pass0 (pa_cons (pv 2) pa_nil)))
      (pss_one (ps_ret (pe_callTy (k_tupS (K := K) rfl) (by rfl) T.z_tuple (by decide +kernel) (pa_cons (pe_lc (own := [("path", 3)]) (g := gName 3) (tt := tYes) rfl sc_Tree_known.nd (k_seqS (K := K) rfl (pv 2)) (blkOk_by (own := [("path", 3)]) (by kernel_rfl)) (fun _ _ _ _ _ => (pg_name (i := 3) sc_Tree_known.nd rfl (by first | exact Or.inl rfl | exact Or.inr rfl))) (fun _ _ _ _ _ => pts_nil) (fun _ _ _ _ _ => (pe_dget (u1 hr.units) (k_fld (K := K) rfl (pv 0) rfl) (pv 3) (fun _ _ => rfl)))) pa_nil)))))), ?_⟩
    refine go_start (σ' := [some (.ref t), some (.ref a), none, none]) rfl ?_
    try dsimp only [cxOf, Cx.nox, Cx.wish]
    walk_at "GO"
    refine ⟨X, t, st, au, ad, ac, ak, a, b, d, size, cs, kv, ls, rfl, hT, hI, ok.pos, hs8, hL, hll, fun D H1 pvs hD s1 eD r1 => ?_⟩
    have h01 := s1 _ _ h0
    walk_at "GO"
    have hm := ok.begs ls
    refine ⟨X, t, st, au, ad, D, d, pvs, _, rfl, hT.same s1, eD, r1, hm, fun p hp => (ok.udom p).mp hp, hz, fun H2 F2 hT2 => ?_⟩
    have hnt := (hT.same s1).nt
    have hnt2 : ∀ c ∈ [t, ad], NTup (H1 c) := fun c hc => hnt c (by
      simp only [List.mem_cons, List.not_mem_nil, or_false] at hc ⊢
      rcases hc with rfl | rfl
      · exact .inl rfl
      · exact .inr (.inr rfl))
    have hDt : D ≠ t := fun z => by rw [z, h01] at eD; cases eD
    have hDa : D ≠ ad := fun z => by
      obtain ⟨_, _, _, _, _, _, _, _, _, _, g, _⟩ := hT.same s1
      rw [z, g] at eD; cases eD
    have eD2 := F2.at (by simp [hDt, hDa]) eD
    have r2 : RA (RKey H2) pvs (begD size d.under ls) := r1.imp fun y q r => RKey.mono _ _ _ _ F2 (rep_hs RKey.tup r hnt2)
    have F02 : FrS [t, ad] H H2 := (FrS.same s1).trans F2
    clear h0 h01 hnt hnt2 F2 eD r1
    obtain ⟨dx, ap, avs, ku, kd, h02, hap, hpr, hau, hku, had, hkd, hne, hX⟩ := id hT2
    unfold TreeF at h02
    walk_at "GO"
    refine c_ints pvs (Sq.lst eD2) ((begD size d.under ls).map fun p => (((d.under p).getD 0 : Nat) : Int)) (by rw [List.length_map, r2.1]) (line_of (by
      have := r2.1
      have h3 : (begD size d.under ls).length ≤ ls.length := by
        unfold begD
        refine Nat.le_trans (List.takeWhile_sublist _).length_le ?_
        rw [List.length_map, List.length_range]
        exact Nat.div_le_self _ _
      omega)) (fun _ => rfl) (fun i x H3 N hi hxi s3 hN => ?_) (fun E3 H3 hE3 s3 e3 => ?_)
    · obtain ⟨p, hp⟩ : ∃ p, (begD size d.under ls)[i]? = some p := ⟨_, List.getElem?_eq_getElem (by have := r2.1; omega)⟩
      obtain ⟨q, rfl, hq⟩ := r2.2 i x p hxi hp
      have hq3 := s3 _ _ hq
      rw [← keyI_V] at hq3
      have h03 := s3 _ _ h02
      have hu := (begD_mem (List.mem_of_getElem? hp)).1
      obtain ⟨n, hn⟩ := Option.isSome_iff_exists.mp hu
      walk_at "GO"
      refine ⟨au, natV n, rfl, ?_, ?_⟩
      · have g := DGet.t (s3 _ _ hau) hq3
        rw [hku.val, show (d.use (begD size d.under ls)).under p = d.under p from rfl, hn] at g
        exact g
      · have e : nth ((begD size d.under ls).map fun p => (((d.under p).getD 0 : Nat) : Int)) (i : Int) = (n : Int) := by
          rw [nth_nat, List.getD_eq_getElem?_getD, List.getElem?_map, hp]
          show ((((d.under p).getD 0 : Nat) : Int)) = _
          rw [hn]; rfl
        have := hN H3 (Same.refl _)
        rw [e] at this
        exact this
    · walk_at "GO"
      rename_i tp H4 htp s4 e4
      exact k _ H4 (F02.trans (FrS.same (s3.trans s4))) (hT2.same (s3.trans s4)) ⟨tp, rfl, Sq.tup e4⟩
/-- sorted(paths) -/

theorem w_sortedP {K : PySem.W.Frag} {H : Hp} {Q : VK} {a : Addr} {xs : List V} {ps : List Path} (h : H a = some (.lst xs)) (r : RA (RKey H) xs ps) (hne : ∀ p ∈ ps, p ≠ []) (q : ∀ l H' ys, H l = none → Same H H' → H' l = some (.lst ys) → RA (RKey H') ys (sortP ps) → Q (.ref l) H') : rSortedL K [.ref a] H Q := by
  have hx : ∀ x ∈ xs, ∃ p t, p ∈ ps ∧ x = V.ref t ∧ H t = some (.tup ((natI p).map V.int)) := fun x hx => by
    obtain ⟨i, hi, rfl⟩ := List.mem_iff_getElem.mp hx
    have hd : ps[i]? = some (ps[i]'(by rw [← r.1]; exact hi)) := List.getElem?_eq_getElem (by rw [← r.1]; exact hi)
    obtain ⟨t, e, ht⟩ := r.2 i _ _ (List.getElem?_eq_getElem hi) hd
    exact ⟨_, t, List.mem_of_getElem? hd, e, ht⟩
  let k : V → List Int := fun v => match v with
    | .ref t => match H t with
      | some (.tup ys) => ys.map fun y => match y with
        | .int i => i
        | _ => 0
      | _ => []
    | _ => []
  have kt : ∀ (t : Addr) (p : Path), H t = some (.tup ((natI p).map V.int)) → k (.ref t) = natI p := fun t p ht => by
    show (match H t with
      | some (.tup ys) => ys.map fun y => match y with
        | .int i => i
        | _ => 0
      | _ => []) = natI p
    rw [ht]
    show ((natI p).map V.int).map _ = natI p
    rw [List.map_map]
    conv => rhs; rw [← List.map_id (natI p)]
    rfl
  have mk : xs.map k = ps.map natI := by
    refine List.ext_getElem? fun i => ?_
    rw [List.getElem?_map, List.getElem?_map]
    by_cases hi : i < xs.length
    · have hd : ps[i]? = some (ps[i]'(by rw [← r.1]; exact hi)) := List.getElem?_eq_getElem (by rw [← r.1]; exact hi)
      obtain ⟨t, e, ht⟩ := r.2 i _ _ (List.getElem?_eq_getElem hi) hd
      rw [List.getElem?_eq_getElem hi, hd, e]
      exact congrArg some (kt t _ ht)
    · rw [List.getElem?_eq_none (by omega), List.getElem?_eq_none (by rw [← r.1]; omega)]
      rfl
  refine ⟨a, xs, k, rfl, SqL.of h, fun x m => ?_, fun ys l h1 h2 hl => ?_⟩
  · obtain ⟨p, t, hp, e, ht⟩ := hx x m
    rw [e, kt t p ht]
    refine ⟨fun z => hne p hp ?_, t, rfl, SqT.of ht⟩
    cases p with
    | nil => rfl
    | cons a b => cases z
  · have hp := h2.perm
    obtain ⟨qs, hqs⟩ : ∃ qs : List Path, ys.map k = qs.map natI ∧ RA (RKey H) ys qs := by
      refine ⟨ys.map fun y => (k y).map Int.toNat, ?_, by rw [List.length_map], fun i y q e1 e2 => ?_⟩
      · rw [List.map_map]
        refine List.map_congr_left fun y hy => ?_
        obtain ⟨p, t, _, e, ht⟩ := hx y (hp.mem_iff.mp hy)
        show k y = natI ((k y).map Int.toNat)
        rw [e, kt t p ht]
        unfold natI
        rw [List.map_map, List.map_map]
        exact List.map_congr_left fun x _ => by simp
      · rw [List.getElem?_map, e1] at e2
        cases e2
        obtain ⟨p, t, _, e, ht⟩ := hx y (hp.mem_iff.mp (List.mem_of_getElem? e1))
        refine ⟨t, e, ?_⟩
        subst e
        show H t = some (.tup ((natI ((k (.ref t)).map Int.toNat)).map V.int))
        rw [kt t p ht, ht]
        congr 3
        unfold natI
        rw [List.map_map, List.map_map]
        exact List.map_congr_left fun x _ => by simp
    have ep : qs = sortP ps := by
      refine sortP_of ?_ ?_
      · have h3 : SrtO.Srtd HT.lexLt (ys.map k) := SrtO.srtd_map h1
        rw [hqs.1] at h3
        exact List.pairwise_map.mp h3
      · have h4 : (qs.map natI).Perm (ps.map natI) := by rw [← hqs.1, ← mk]; exact hp.map k
        have e : ∀ l : List Path, (l.map natI).map (fun z => z.map Int.toNat) = l := fun l => by
          rw [List.map_map]
          conv => rhs; rw [← List.map_id l]
          refine List.map_congr_left fun p _ => ?_
          show (natI p).map Int.toNat = p
          unfold natI
          rw [List.map_map]
          conv => rhs; rw [← List.map_id p]
          exact List.map_congr_left fun x _ => rfl
        have h5 := h4.map fun z => z.map Int.toNat
        rw [e, e] at h5
        exact h5
    have s := Same.new (o := .lst ys) hl
    rw [ep] at hqs
    exact q l _ ys hl s upd_same (hqs.2.imp fun y p r => RKey.mono _ _ _ _ s r)
theorem w_catSS {K : PySem.W.Frag} {H : Hp} {Q : VK} {l b : Addr} {xs zs : List V} (h1 : H l = some (.lst xs)) (h2 : H b = some (.lst zs)) (hz : xs.length + zs.length ≤ sizeLine) (q : ∀ p H', H p = none → Same H H' → H' p = some (.lst (xs ++ zs)) → Q (.ref p) H') : rAddG K (.ref l) (.ref b) H Q :=
  w_catLL h1 h2 hz fun p hp => q p _ hp (Same.new hp) upd_same
/-! ### put -/
def putC (size : Nat) (d : TreeD) (cs : List Int) (ls : Path) (b : Nat) : List Int := if newP size d ls = true then cs.set b (nth cs ((b : Nat) : Int) + 1) else cs
def sp_Tree_put (K : PySem.W.Frag) (C CS : Addr) : Sp := fun vs H Q _ => ∃ (X : List Addr) (t st au ad ac ak a : Addr) (bb : Bool) (d : TreeD) (size : Nat) (cs : List Int) (kv : List (List V)) (ls : Path) (b k : Nat), vs = [.ref t, .ref a, .int ((b : Nat) : Int)] ∧ IsTree C X H t st au ad d ∧ IsStoreV K CS H st ac ak size cs kv ∧ SOk size cs kv ∧ TreeOk size d ∧ Tq bb K H a ((natI ls).map V.int) ∧ ls.length = (k + 1) * size ∧ ls.length ≤ 10000 ∧ d.paths.length ≤ 10000 ∧ heldD cs (some (b : Int)) = some b ∧ ac ∈ X ∧ ak ∈ X ∧ (∀ x ∈ X, ∃ o, H x = some o) ∧
  ∀ H', FrS [t, au, ad, ac, ak] H H' → IsTree C X H' t st au ad (d.put size ls b) → IsStoreV K CS H' st ac ak size (putC size d cs ls b) kv → Q (.int ((((d.put size ls b).under ls).getD b : Nat) : Int)) H'
theorem ok_Tree_put (T : Txt K mg) : FnOk P w K mg base CX0 5 T.a_Tree_put T.d_Tree_put ["self", "path", "block"] (sp_Tree_put K T.c_Tree T.c_Store) := by
  refine T.F_Tree_put.ok sc_Tree_put (fun vs H Q E h => ?_) (fun cdv A outer s H vs Q E hr h => ?_)
  · obtain ⟨_, _, _, _, _, _, _, _, _, _, _, _, _, _, _, _, rfl, _⟩ := h
    rfl
  · obtain ⟨X, t, st, au, ad, ac, ak, a, bb, d, size, cs, kv, ls, b, k0, rfl, hT, hI, sok, ok, hL, hlk, hll, hz, hb, hX1, hX2, hXs, k⟩ := h
    have cT := T.C_Tree
    have cS := T.C_Store
    have n1 := T.n_Tree_store
    have n2 := T.n_Tree_under
    have n3 := T.n_Tree_paths
    have m2 := T.n_Store_size
    have hs := ok.pos
    obtain ⟨dx, ap, pvs, ku, kd, h0, hap, hps, hau, hku, had, hkd, hne, hX⟩ := id hT
    obtain ⟨dy, g0, g1, ⟨ks, g2, _⟩, gne⟩ := id hI
    unfold TreeF at h0
    unfold StoreF at g0
    have hnl := natI_len ls
    have hsl : size ≤ ls.length := by rw [hlk, Nat.add_mul, Nat.one_mul]; omega
    refine ⟨_, (pss_cons (ps_set (i := 1) sc_Tree_put.nd rfl (Or.inl rfl) (pe_callTy (k_tupS (K := K) rfl) (by rfl) T.z_tuple (by decide +kernel) (pa_cons (pv 1) pa_nil)))
      (pss_cons (ps_set (i := 3) sc_Tree_put.nd rfl (Or.inl rfl) (pe_slice (k_slG (K := K) rfl) (pv 1) po_none (po_some (pe_op op_sub (pe_callB (k_lenS (K := K) rfl) (by rfl) T.z_len (by decide +kernel) (pa_cons (pv 1) pa_nil)) (k_fld (K := K) rfl (k_fld (K := K) rfl (pv 0) rfl) rfl)))))
      (Evl.pss_cut (ps_if (PW.pt (pw_and (pt_cmp (pc_dnotin (u1 hr.units) (pv 1) (k_fld (K := K) rfl (pv 0) rfl)) rfl) (pw_and1 (PW.pt (pw_or (pt_cmpR (k_eqG (K := K) rfl hr.units) (pe_callB (k_lenS (K := K) rfl) (by rfl) T.z_len (by decide +kernel) (pa_cons (pv 3) pa_nil)) pe_int (nomark _)) (pw_or1 (pt_cmp (pc_din (u1 hr.units) (pv 3) (k_fld (K := K) rfl (pv 0) rfl)) rfl))))))) (pss_cons (ps_expr (pe_meth (k_fld (K := K) rfl (pv 0) rfl) T.C_Store T.m_Store_hold (ok_Store_hold T) (hr.mono (by decide)) T.b_Store_hold .nil pass0 (pa_cons (pv 2) pa_nil)))
      (pss_cons (ps_dput (u1 hr.units) (k_fld (K := K) rfl (pv 0) rfl) (pv 1) (pv 2) rfl)
      (pss_one (k_sfld (K := K) rfl (pv 0) (pe_callB (k_sortedL (K := K) rfl) (by rfl) T.z_sorted (by decide +kernel) (pa_cons (pe_op (k_addG (K := K) rfl) (k_fld (K := K) rfl (pv 0) rfl) (pe_lst (pa_cons (pv 1) pa_nil))) pa_nil)) rfl)))) pss_nil)
      (pss_cons (ps_expr (pe_meth (pv 0) T.C_Tree T.m_Tree_use (ok_Tree_use T) (hr.mono (by decide)) T.b_Tree_use .nil pass0 (pa_cons (pe_meth (pv 0) T.C_Tree T.m_Tree_beginnings (ok_Tree_beginnings T) (hr.mono (by decide)) T.b_Tree_beginnings .nil pass0 (pa_cons (pv 1) pa_nil)) pa_nil)))
      (pss_one (ps_ret (pe_dget2 (u1 hr.units) (k_fld (K := K) rfl (pv 0) rfl) (pv 1) (pv 2) ⟨rfl, rfl, rfl, rfl⟩))))))), ?_⟩
    refine go_start (σ' := [some (.ref t), some (.ref a), some (.int ((b : Nat) : Int)), none]) rfl ?_
    try dsimp only [cxOf, Cx.nox, Cx.wish]
    have hts := hT.ne_store hI
    have htd := hT.ne.2.1
    have nku : au ≠ ak := fun z => by rw [z, g2] at hau; cases hau
    have nau : au ≠ ac := fun z => by rw [z, g1] at hau; cases hau
    have nst : st ≠ au := fun z => by rw [z, hau] at g0; cases g0
    clear hap hps had hkd
    walk_at "GO"
    refine w_tupTq hL fun p H1 s1 e1 => ?_
    have npc : p ≠ ac := fun z => by rw [z, s1 _ _ g1] at e1; cases e1
    have npk : p ≠ ak := fun z => by rw [z, s1 _ _ g2] at e1; cases e1
    have hpt : p ≠ t := fun z => by rw [z, s1 _ _ h0] at e1; cases e1
    clear g1 g2
    have h1 := s1 _ _ h0
    have gg1 := s1 _ _ g0
    have hSp : Sq false K H1 p ((natI ls).map V.int) := Sq.tup e1
    walk_at "GO"
    refine w_slTq (b := false) (ys := (natI (aheadP size ls)).map V.int) (show Tq false K H1 p _ from e1) (by
      rw [show (((natI ls).length : Nat) : Int) - ((size : Nat) : Int) = ((ls.length - size : Nat) : Int) by omega, cutV_upto (by rw [List.length_map, natI_len]; omega)]
      unfold aheadP natI
      rw [← List.map_take, ← List.map_take]) fun q H2 s2 h2 => ?_
    have h2 : H2 q = some (.tup ((natI (aheadP size ls)).map V.int)) := h2
    have e2 := s2 _ _ e1
    have h02 := s2 _ _ h1
    have g02 := s2 _ _ gg1
    have s02 := s1.trans s2
    have hau2 := s02 _ _ hau
    have hT2 := hT.same s02
    have hI2 := storeV_same s02 hI
    rw [← keyI_V] at e2
    clear h1 gg1 hSp e1 s1 s2 h0 g0 hau hL
    obtain ⟨Mid, hMid⟩ : ∃ Mid : L2.St → Hp → Prop, Mid = fun σ H' => ∃ (d1 : TreeD) (cs1 : List Int), σ = [some (.ref t), some (.ref p), some (.int ((b : Nat) : Int)), some (.ref q)] ∧ FrS [t, au, ad, ac, ak] H H' ∧ IsTree T.c_Tree X H' t st au ad d1 ∧ IsStoreV K T.c_Store H' st ac ak size cs1 kv ∧ H' p = some (.tup ((keyI ls).map kV)) ∧ d1 = (if newP size d ls = true then d.add ls b else d) ∧ cs1 = (if newP size d ls = true then cs.set b (nth cs ((b : Nat) : Int) + 1) else cs) := ⟨_, rfl⟩
    refine w_cut Mid ?_ ?_
    · walk_at "GO"
      refine w_dnotin ?_
      walk_at "GO"
      refine ⟨au, _, rfl, DGet.t hau2 e2, ?_⟩
      rw [hku.val]
      cases hu : d.under ls with
      | some n =>
        rw [show (!(Option.map natV (some n)).isSome) = false from rfl]
        have hnw : ¬ newP size d ls = true := fun z => by
          unfold newP at z
          rw [hu] at z
          cases z
        walk_at "GO"
        rw [hMid]
        exact ⟨d, cs, rfl, FrS.same s02, hT2, hI2, e2, by rw [if_neg hnw], by rw [if_neg hnw]⟩
      | none =>
        rw [show (!(Option.map natV none).isSome) = true from rfl]
        walk_at "GO"
        refine w_iteD (fun hz0 => ?_) (fun hz0 => ?_)
        · rw [natI_len] at hz0
          have hnw : newP size d ls = true := by
            unfold newP
            rw [hu, decide_eq_true (List.length_eq_zero_iff.mp (by omega))]
            rfl
          walk_at "GO"
          refine ⟨st, ac, ak, size, .int (b : Int), some (b : Int), cs, kv, rfl, hI2, rfl, fun b' hb' H3 f3 hI3 => ?_, fun hn => by rw [hb] at hn; cases hn⟩
          obtain rfl : b = b' := Option.some.inj (hb.symm.trans hb')
          have hT3 := hT2.fr2 f3 hI2 hX1 hX2
          have e3 := f3 _ _ npc npk e2
          obtain ⟨dx3, ap3, pvs3, ku3, kd3, h3, hap3, hps3, hau3, hku3, had3, hkd3, _, hX3⟩ := id hT3
          unfold TreeF at h3
          have hlu : ku3.length ≤ d.paths.length := hku3.len fun p hp => (ok.dom p).mp hp
          walk_at "GO"
          refine ⟨au, _, rfl, DPut.t hau3 e3 (by rw [sizeLine_eq]; omega), ?_⟩
          have htu : t ≠ au := fun z => by rw [z, hau3] at h3; cases h3
          have hapu : ap3 ≠ au := fun z => by rw [z, hau3] at hap3; cases hap3
          have hpu : p ≠ au := fun z => by rw [z, hau3] at e3; cases e3
          have ntu : NTup (H3 au) := NTup.dT hau3
          have h4 := (upd_ne (o := .dT (putK ku3 (keyI ls) (.int (b : Int)))) htu).trans h3
          have ap4 := (upd_ne (o := .dT (putK ku3 (keyI ls) (.int (b : Int)))) hapu).trans hap3
          have e4 := (upd_ne (o := .dT (putK ku3 (keyI ls) (.int (b : Int)))) hpu).trans e3
          have ps4 := hps3.imp fun y q r => RTup.upd (o := .dT (putK ku3 (keyI ls) (.int (b : Int)))) RKey.tup RKey.mono ntu r
          have ad4 := (upd_ne (o := .dT (putK ku3 (keyI ls) (.int (b : Int)))) (Ne.symm hne)).trans had3
          have au4 : upd H3 au (.dT (putK ku3 (keyI ls) (.int (b : Int)))) au = _ := upd_same
          have F4 : FrS [t, au, ad, ac, ak] H (upd H3 au (.dT (putK ku3 (keyI ls) (.int (b : Int))))) := ((FrS.same s02).trans (FrS.of2 f3 (by simp) (by simp))).upd _ (by simp)
          have hI4 := storeV_frS (S := [au]) ((FrS.same (Same.refl _)).upd (a := au) (.dT (putK ku3 (keyI ls) (.int (b : Int)))) (by simp)) (fun c hc => by rw [List.mem_singleton.mp hc]; exact ntu) (by simp [nst]) (by simp [Ne.symm nau]) (by simp [Ne.symm nku]) hI3
          generalize upd H3 au (.dT (putK ku3 (keyI ls) (.int (b : Int)))) = H4 at h4 ap4 e4 ps4 ad4 au4 F4 hI4 ⊢
          clear h3 hap3 e3 hps3 had3 hau3 hI3 f3
          walk_at "GO"
          rename_i l5 H5 hl5 s5 e5
          refine w_catSS (s5 _ _ ap4) e5 (by rw [sizeLine_eq]; have := ps4.1; simp only [List.length_cons, List.length_nil]; omega) fun l6 H6 hl6 s6 e6 => ?_
          have s46 := s5.trans s6
          have r6 : RA (RKey H6) (pvs3 ++ [.ref p]) (d.paths ++ [ls]) := (ps4.imp fun y q r => RKey.mono _ _ _ _ s46 r).push ⟨p, rfl, by rw [← keyI_V]; exact s46 _ _ e4⟩
          walk_at "GO"
          refine w_sortedP e6 r6 (fun q hq => ?_) fun l7 H7 qvs hl7 s7 e7 r7 => ?_
          · rcases List.mem_append.mp hq with m | m
            · obtain ⟨k1, hk1⟩ := ok.shape q m
              intro z
              rw [z] at hk1
              simp only [List.length_nil] at hk1
              have : 0 < (k1 + 1) * size := Nat.mul_pos (by omega) (by omega)
              omega
            · rw [List.mem_singleton.mp m]
              intro z
              rw [z] at hsl
              simp only [List.length_nil] at hsl
              omega
          have s47 := s46.trans s7
          have h7 := s47 _ _ h4
          have hl7X : l7 ∉ X := fun m => by
            obtain ⟨o, ho⟩ := hXs l7 m
            have hn := none_back (F4.trans (FrS.same s46)) hl7
            by_cases hm : l7 ∈ [t, au, ad, ac, ak]
            · obtain ⟨_, _, i2, ⟨_, i3, _⟩, _⟩ := id hI4
              simp only [List.mem_cons, List.not_mem_nil, or_false] at hm
              rcases hm with rfl | rfl | rfl | rfl | rfl
              · rw [s46 _ _ h4] at hl7; cases hl7
              · rw [s46 _ _ au4] at hl7; cases hl7
              · rw [s46 _ _ ad4] at hl7; cases hl7
              · rw [s46 _ _ i2] at hl7; cases hl7
              · rw [s46 _ _ i3] at hl7; cases hl7
            · rw [hs_ne hm, ho] at hn; cases hn
          have hlt : l7 ≠ t := fun z => by rw [z, h7] at e7; cases e7
          walk_at "GO"
          have ntt : NTup (H7 t) := NTup.ins h7
          rw [hMid]
          refine ⟨d.add ls b, cs.set b (nth cs ((b : Nat) : Int) + 1), rfl, F4.trans ((FrS.same s47).upd _ (by simp)), ⟨dx3, l7, qvs, _, kd3, upd_same, (upd_ne hlt).trans e7, r7.imp fun y q r => RTup.upd RKey.tup RKey.mono ntt r, (upd_ne (Ne.symm htu)).trans (s47 _ _ au4), hku3.put ls b, (upd_ne (Ne.symm htd)).trans (s47 _ _ ad4), hkd3, hne, hl7X⟩, storeV_updI h7 (hts) (storeV_same s47 hI4), (upd_ne hpt).trans (s47 _ _ e4), by rw [if_pos hnw], by rw [if_pos hnw]⟩
        · rw [natI_len] at hz0
          walk_at "GO"
          refine w_din ?_
          walk_at "GO"
          rw [← keyI_V] at h2
          refine ⟨au, _, rfl, DGet.t hau2 h2, ?_⟩
          rw [hku.val]
          cases hv : d.under (aheadP size ls) with
          | none =>
            rw [show (Option.map natV none).isSome = false from rfl]
            have hnw : ¬ newP size d ls = true := fun z => by
              unfold newP at z
              rw [hu, hv, decide_eq_false (fun e => hz0 (by rw [e]; rfl))] at z
              cases z
            walk_at "GO"
            rw [hMid]
            exact ⟨d, cs, rfl, FrS.same s02, hT2, hI2, e2, by rw [if_neg hnw], by rw [if_neg hnw]⟩
          | some n =>
            rw [show (Option.map natV (some n)).isSome = true from rfl]
            have hnw : newP size d ls = true := by
              unfold newP
              rw [hu, hv]
              simp
            walk_at "GO"
            refine ⟨st, ac, ak, size, .int (b : Int), some (b : Int), cs, kv, rfl, hI2, rfl, fun b' hb' H3 f3 hI3 => ?_, fun hn => by rw [hb] at hn; cases hn⟩
            obtain rfl : b = b' := Option.some.inj (hb.symm.trans hb')
            have hT3 := hT2.fr2 f3 hI2 hX1 hX2
            have e3 := f3 _ _ npc npk e2
            obtain ⟨dx3, ap3, pvs3, ku3, kd3, h3, hap3, hps3, hau3, hku3, had3, hkd3, _, hX3⟩ := id hT3
            unfold TreeF at h3
            have hlu : ku3.length ≤ d.paths.length := hku3.len fun p hp => (ok.dom p).mp hp
            walk_at "GO"
            refine ⟨au, _, rfl, DPut.t hau3 e3 (by rw [sizeLine_eq]; omega), ?_⟩
            have htu : t ≠ au := fun z => by rw [z, hau3] at h3; cases h3
            have hapu : ap3 ≠ au := fun z => by rw [z, hau3] at hap3; cases hap3
            have hpu : p ≠ au := fun z => by rw [z, hau3] at e3; cases e3
            have ntu : NTup (H3 au) := NTup.dT hau3
            have h4 := (upd_ne (o := .dT (putK ku3 (keyI ls) (.int (b : Int)))) htu).trans h3
            have ap4 := (upd_ne (o := .dT (putK ku3 (keyI ls) (.int (b : Int)))) hapu).trans hap3
            have e4 := (upd_ne (o := .dT (putK ku3 (keyI ls) (.int (b : Int)))) hpu).trans e3
            have ps4 := hps3.imp fun y q r => RTup.upd (o := .dT (putK ku3 (keyI ls) (.int (b : Int)))) RKey.tup RKey.mono ntu r
            have ad4 := (upd_ne (o := .dT (putK ku3 (keyI ls) (.int (b : Int)))) (Ne.symm hne)).trans had3
            have au4 : upd H3 au (.dT (putK ku3 (keyI ls) (.int (b : Int)))) au = _ := upd_same
            have F4 : FrS [t, au, ad, ac, ak] H (upd H3 au (.dT (putK ku3 (keyI ls) (.int (b : Int))))) := ((FrS.same s02).trans (FrS.of2 f3 (by simp) (by simp))).upd _ (by simp)
            have hI4 := storeV_frS (S := [au]) ((FrS.same (Same.refl _)).upd (a := au) (.dT (putK ku3 (keyI ls) (.int (b : Int)))) (by simp)) (fun c hc => by rw [List.mem_singleton.mp hc]; exact ntu) (by simp [nst]) (by simp [Ne.symm nau]) (by simp [Ne.symm nku]) hI3
            generalize upd H3 au (.dT (putK ku3 (keyI ls) (.int (b : Int)))) = H4 at h4 ap4 e4 ps4 ad4 au4 F4 hI4 ⊢
            clear h3 hap3 e3 hps3 had3 hau3 hI3 f3
            walk_at "GO"
            rename_i l5 H5 hl5 s5 e5
            refine w_catSS (s5 _ _ ap4) e5 (by rw [sizeLine_eq]; have := ps4.1; simp only [List.length_cons, List.length_nil]; omega) fun l6 H6 hl6 s6 e6 => ?_
            have s46 := s5.trans s6
            have r6 : RA (RKey H6) (pvs3 ++ [.ref p]) (d.paths ++ [ls]) := (ps4.imp fun y q r => RKey.mono _ _ _ _ s46 r).push ⟨p, rfl, by rw [← keyI_V]; exact s46 _ _ e4⟩
            walk_at "GO"
            refine w_sortedP e6 r6 (fun q hq => ?_) fun l7 H7 qvs hl7 s7 e7 r7 => ?_
            · rcases List.mem_append.mp hq with m | m
              · obtain ⟨k1, hk1⟩ := ok.shape q m
                intro z
                rw [z] at hk1
                simp only [List.length_nil] at hk1
                have : 0 < (k1 + 1) * size := Nat.mul_pos (by omega) (by omega)
                omega
              · rw [List.mem_singleton.mp m]
                intro z
                rw [z] at hsl
                simp only [List.length_nil] at hsl
                omega
            have s47 := s46.trans s7
            have h7 := s47 _ _ h4
            have hl7X : l7 ∉ X := fun m => by
              obtain ⟨o, ho⟩ := hXs l7 m
              have hn := none_back (F4.trans (FrS.same s46)) hl7
              by_cases hm : l7 ∈ [t, au, ad, ac, ak]
              · obtain ⟨_, _, i2, ⟨_, i3, _⟩, _⟩ := id hI4
                simp only [List.mem_cons, List.not_mem_nil, or_false] at hm
                rcases hm with rfl | rfl | rfl | rfl | rfl
                · rw [s46 _ _ h4] at hl7; cases hl7
                · rw [s46 _ _ au4] at hl7; cases hl7
                · rw [s46 _ _ ad4] at hl7; cases hl7
                · rw [s46 _ _ i2] at hl7; cases hl7
                · rw [s46 _ _ i3] at hl7; cases hl7
              · rw [hs_ne hm, ho] at hn; cases hn
            have hlt : l7 ≠ t := fun z => by rw [z, h7] at e7; cases e7
            walk_at "GO"
            have ntt : NTup (H7 t) := NTup.ins h7
            rw [hMid]
            refine ⟨d.add ls b, cs.set b (nth cs ((b : Nat) : Int) + 1), rfl, F4.trans ((FrS.same s47).upd _ (by simp)), ⟨dx3, l7, qvs, _, kd3, upd_same, (upd_ne hlt).trans e7, r7.imp fun y q r => RTup.upd RKey.tup RKey.mono ntt r, (upd_ne (Ne.symm htu)).trans (s47 _ _ au4), hku3.put ls b, (upd_ne (Ne.symm htd)).trans (s47 _ _ ad4), hkd3, hne, hl7X⟩, storeV_updI h7 (hts) (storeV_same s47 hI4), (upd_ne hpt).trans (s47 _ _ e4), by rw [if_pos hnw], by rw [if_pos hnw]⟩
    · rw [hMid]
      clear hMid h02 g02 hau2 hT2 hI2 e2 h2 Mid
      rintro σ H3 ⟨d1, cs1, rfl, F3, hT3, hI3, e3, hd1, hcs1⟩
      have hp3 : H3 p = some (.tup ((natI ls).map V.int)) := by rw [← keyI_V]; exact e3
      have ok1 : ∀ p ∈ begD size d1.under ls, p ∈ d1.paths := by
        rw [hd1]
        split
        · rename_i hn
          exact fun p hp => (ok.add (b := b) hlk hn).begs ls p hp
        · exact ok.begs ls
      have ud1 : ∀ p, (d1.used p).isSome = true → p ∈ d1.paths := by
        rw [hd1]
        split
        · exact fun p hp => mem_sortP.mpr (List.mem_append.mpr (.inl ((ok.udom p).mp hp)))
        · exact fun p hp => (ok.udom p).mp hp
      have hz1 : d1.paths.length ≤ 100000 := by
        rw [hd1]
        split
        · show (sortP (d.paths ++ [ls])).length ≤ _
          rw [sortP_len, List.length_append]
          simp only [List.length_cons, List.length_nil]
          omega
        · omega
      have hput : d.put size ls b = d1.use (begD size d1.under ls) := by
        rw [hd1]
        unfold TreeD.put
        split <;> rfl
      have hput2 : putC size d cs ls b = cs1 := by rw [hcs1]; rfl
      rw [hput, hput2] at k
      obtain ⟨dx4, ap4, pvs4, ku4, kd4, h4, _⟩ := id hT3
      unfold TreeF at h4
      walk_at "GO"
      refine ⟨X, t, st, au, ad, ac, ak, p, false, d1, size, cs1, kv, ls, rfl, hT3, hI3, hs, by have := sok.size; omega, hp3, hll, fun D H4 qvs hD s4 eD r4 => ?_⟩
      have h5 := s4 _ _ h4
      walk_at "GO"
      refine ⟨X, t, st, au, ad, D, d1, qvs, _, rfl, hT3.same s4, eD, r4, ok1, ud1, hz1, fun H5 F5 hT5 => ?_⟩
      have hnt := (hT3.same s4).nt
      have hnt2 : ∀ c ∈ [t, ad], NTup (H4 c) := fun c hc => hnt c (by
        simp only [List.mem_cons, List.not_mem_nil, or_false] at hc ⊢
        rcases hc with rfl | rfl
        · exact .inl rfl
        · exact .inr (.inr rfl))
      have e5 := F5.at (tup_not hnt2 (s4 _ _ e3)) (s4 _ _ e3)
      have hI4 := storeV_same s4 hI3
      obtain ⟨_, i0, i1, ⟨_, i2, _⟩, _⟩ := id hI4
      have hac : ac ∉ [t, ad] := fun m => by
        obtain ⟨z1, z2, z3⟩ := (hT3.same s4).lst i1
        simp [z1, z3] at m
      have hak : ak ∉ [t, ad] := fun m => by
        obtain ⟨z1, z2, z3⟩ := (hT3.same s4).lst i2
        simp [z1, z3] at m
      have hst : st ∉ [t, ad] := fun m => by
        obtain ⟨_, _, _, _, _, _, _, _, _, _, j6, _⟩ := hT3.same s4
        simp only [List.mem_cons, List.not_mem_nil, or_false] at m
        rcases m with m | m
        · exact hts m.symm
        · rw [m, j6] at i0; cases i0
      have hI5 := storeV_frS F5 hnt2 hst hac hak hI4
      have F05 : FrS [t, au, ad, ac, ak] H H5 := F3.trans ((FrS.same s4).trans (F5.up fun c hc => by
        simp only [List.mem_cons, List.not_mem_nil, or_false] at hc ⊢
        rcases hc with rfl | rfl
        · exact .inl rfl
        · exact .inr (.inr (.inl rfl))))
      clear h4 h5 hT3 hI3 hI4 i0 i1 i2 F3 F5 s4 eD r4
      obtain ⟨dx6, ap6, pvs6, ku6, kd6, h6, _, _, hau6, hku6, _⟩ := id hT5
      unfold TreeF at h6
      walk_at "GO"
      refine w_dget2 ?_
      walk_at "GO"
      refine ⟨au, rfl, .inr ⟨ku6, .inl hau6⟩, ?_⟩
      walk_at "GO"
      refine ⟨_, DGet.t hau6 e5, ?_⟩
      rw [hku6.val]
      have e6 : ((d1.use (begD size d1.under ls)).under ls).map natV = some (natV ((((d1.use (begD size d1.under ls)).under ls).getD b))) ∨ ((d1.use (begD size d1.under ls)).under ls) = none := by
        cases (d1.use (begD size d1.under ls)).under ls with
        | none => exact .inr rfl
        | some n => exact .inl rfl
      walk_at "GO"
      have k5 := k H5 F05 hT5 hI5
      rcases e6 with e6 | e6
      · rw [e6]
        exact k5
      · rw [e6] at k5 ⊢
        exact k5

/-! ### a path dropped -/
theorem valV_drop (kvs : List (List Key × V)) (k k' : List Key) : valV (dropK kvs k) k' = if k' = k then none else valV kvs k' := by
  unfold valV dropK
  rw [List.find?_filter]
  by_cases e : k' = k
  · rw [if_pos e, List.find?_eq_none.mpr fun x _ h => ?_]
    · rfl
    · simp only [decide_not, Bool.and_eq_true, Bool.not_eq_true', decide_eq_false_iff_not, decide_eq_true_eq] at h
      exact h.1 (h.2.trans e)
  · rw [if_neg e]
    refine congrArg (fun f => Option.map Prod.snd (List.find? f kvs)) (funext fun x => ?_)
    by_cases h : x.1 = k'
    · simp [h, e]
    · simp [h]
theorem DN.del {kvs : List (List Key × V)} {f : Path → Option Nat} (h : DN kvs f) (x : Path) : DN (dropK kvs (keyI x)) fun q => if q = x then none else f q := by
  refine ⟨?_, fun k hk => ?_, fun q => ?_⟩
  · exact List.Nodup.sublist (List.Sublist.map _ List.filter_sublist) h.nod
  · obtain ⟨kv, m, rfl⟩ := List.mem_map.mp hk
    obtain ⟨m1, m2⟩ := List.mem_filter.mp m
    obtain ⟨p, e, hp⟩ := h.key kv.1 (List.mem_map.mpr ⟨kv, m1, rfl⟩)
    refine ⟨p, e, ?_⟩
    show (if p = x then none else f p).isSome = true
    rw [if_neg (fun z => of_decide_eq_true m2 (by rw [e, z]))]
    exact hp
  · rw [valV_drop]
    show _ = Option.map natV (if q = x then none else f q)
    by_cases e : q = x
    · rw [if_pos (by rw [e]), if_pos e]; rfl
    · rw [if_neg (fun z => e (keyI_inj z)), if_neg e]; exact h.val q
theorem RA.fsnoc {δ : Type} {P : V → δ → Prop} {vs : List V} {ds : List δ} {v : V} {g : δ → Bool} {i : Nat} {d : δ} (h : RA P vs ((ds.take i).filter g)) (e : ds[i]? = some d) : (g d = true → P v d → RA P (vs ++ [v]) ((ds.take (i + 1)).filter g)) ∧ (g d = false → RA P vs ((ds.take (i + 1)).filter g)) := by
  rw [List.take_add_one, e, List.filter_append]
  refine ⟨fun hg hp => ?_, fun hg => ?_⟩
  · rw [show List.filter g (Option.toList (some d)) = [d] by simp [hg]]
    exact h.push hp
  · rw [show List.filter g (Option.toList (some d)) = [] by simp [hg], List.append_nil]
    exact h
theorem eqvAll_dec : ∀ ns ms : List Int, PyData.eqvAll (ns.map PyData.int) (ms.map PyData.int) = decide (ns = ms)
  | [], [] => by simp only [List.map_nil, PyData.eqvAll, decide_true]
  | [], _ :: _ => by simp only [List.map_nil, List.map_cons, PyData.eqvAll]; simp
  | _ :: _, [] => by simp only [List.map_nil, List.map_cons, PyData.eqvAll]; simp
  | n :: ns, m :: ms => by
    simp only [List.map_cons, PyData.eqvAll, PyData.eqv, eqvAll_dec ns ms]
    by_cases h1 : n = m
    · by_cases h2 : ns = ms <;> simp [h1, h2]
    · simp [h1]
/-- == and != of two paths -/
theorem w_eqKey {K : PySem.W.Frag} {H : Hp} {Q : VK} {x y : V} {p q : Path} (hx : RKey H x p) (hy : RKey H y q) (k : Q (.bl (decide (p = q))) H) : rEqG K x y H Q := by
  obtain ⟨a, rfl, ha⟩ := hx
  obtain ⟨b, rfl, hb⟩ := hy
  refine w_eqD (dp_ints (b := false) (Sq.tup ha)) (dp_ints (b := false) (Sq.tup hb)) (shaped_intsT _) (shaped_intsT _) ?_
  have e : PyData.eqv (.tuple ((natI p).map PyData.int)) (.tuple ((natI q).map PyData.int)) = decide (p = q) := by
    simp only [PyData.eqv, eqvAll_dec]
    by_cases h : p = q
    · rw [h]; simp
    · rw [decide_eq_false h, decide_eq_false fun z => h (natI_inj z)]
  show Q (.bl (PyData.eqv (.tuple ((natI p).map PyData.int)) (.tuple ((natI q).map PyData.int)))) H
  rw [e]; exact k
theorem w_neKey {K : PySem.W.Frag} {H : Hp} {Q : VK} {x y : V} {p q : Path} (hx : RKey H x p) (hy : RKey H y q) (k : Q (.bl (decide (p ≠ q))) H) : rNeG K x y H Q := by
  obtain ⟨a, rfl, ha⟩ := hx
  obtain ⟨b, rfl, hb⟩ := hy
  refine w_neD (dp_ints (b := false) (Sq.tup ha)) (dp_ints (b := false) (Sq.tup hb)) (shaped_intsT _) (shaped_intsT _) ?_
  have e : (!PyData.eqv (.tuple ((natI p).map PyData.int)) (.tuple ((natI q).map PyData.int))) = decide (p ≠ q) := by
    simp only [PyData.eqv, eqvAll_dec]
    by_cases h : p = q
    · rw [h]; simp
    · rw [decide_eq_true h, decide_eq_false fun z => h (natI_inj z)]; rfl
  show Q (.bl (!PyData.eqv (.tuple ((natI p).map PyData.int)) (.tuple ((natI q).map PyData.int)))) H
  rw [e]; exact k
def sp_Tree_ends_of (K : PySem.W.Frag) (C CS : Addr) : Sp := fun vs H Q _ => ∃ (X : List Addr) (t st au ad ac ak a : Addr) (d : TreeD) (size : Nat) (cs : List Int) (kv : List (List V)) (pvs : List V) (ps : List Path), vs = [.ref t, .ref a] ∧ IsTree C X H t st au ad d ∧ IsStoreV K CS H st ac ak size cs kv ∧ 1 ≤ size ∧ size ≤ 8 ∧ H a = some (.lst pvs) ∧ RA (RKey H) pvs ps ∧ (∀ p ∈ ps, size ≤ p.length ∧ p.length ≤ 1000) ∧ ps.length ≤ 10000 ∧
  ∀ D H' ys, H D = none → Same H H' → H' D = some (.lst ys) → RA (RKey H) ys (endsP size ps) → Q (.ref D) H'
theorem ok_Tree_ends_of (T : Txt K mg) : FnOk P w K mg base CX0 1 T.a_Tree_ends_of T.d_Tree_ends_of ["self", "paths"] (sp_Tree_ends_of K T.c_Tree T.c_Store) := by
  refine T.F_Tree_ends_of.ok sc_Tree_ends_of (fun vs H Q E h => ?_) (fun cdv A outer s H vs Q E hr h => ?_)
  · obtain ⟨_, _, _, _, _, _, _, _, _, _, _, _, _, _, rfl, _⟩ := h
    rfl
  · obtain ⟨X, t, st, au, ad, ac, ak, a, d, size, cs, kv, pvs, ps, rfl, hT, hI, hs, hs8, hA, hr1, hpl, hpz, k⟩ := h
    have cT := T.C_Tree
    have cS := T.C_Store
    have n1 := T.n_Tree_store
    have m2 := T.n_Store_size
    obtain ⟨dx, ap, avs, ku, kd, h0, _⟩ := id hT
    obtain ⟨dy, g0, _⟩ := id hI
    unfold TreeF at h0
    unfold StoreF at g0
    have hl := hr1.1
    have hz : pvs.length < sizeLine := by rw [sizeLine_eq]; omega
    have get : ∀ (i : Nat) x, pvs[i]? = some x → ∃ p q0, ps[i]? = some p ∧ x = V.ref q0 ∧ H q0 = some (.tup ((natI p).map V.int)) ∧ size ≤ p.length ∧ p.length ≤ 1000 := fun i x hx => by
      have hi := (List.getElem?_eq_some_iff.mp hx).1
      have hp : ps[i]? = some (ps[i]'(by omega)) := List.getElem?_eq_getElem (by omega)
      obtain ⟨q0, e, hq⟩ := hr1.2 i x _ hx hp
      obtain ⟨z1, z2⟩ := hpl _ (List.mem_of_getElem? hp)
      exact ⟨_, q0, hp, e, hq, z1, z2⟩
    refine ⟨_, (pss_cons (ps_set (i := 2) sc_Tree_ends_of.nd rfl (Or.inr rfl) (pe_dcT (own := [("path", 3)]) (g := gName 3) (tt := tYes) (Nat.lt_of_succ_lt (u1 hr.units)) rfl sc_Tree_ends_of.nd (k_seqS (K := K) rfl (pv 1)) (blkOk_by (own := [("path", 3)]) (by kernel_rfl)) (fun _ _ _ _ _ => (pg_name (i := 3) sc_Tree_ends_of.nd rfl (by first | exact Or.inl rfl | exact Or.inr rfl))) (fun _ _ _ _ _ => pts_nil) (fun _ _ _ _ _ => (pe_slice (k_slG (K := K) rfl) (pv 3) po_none (po_some (pe_op op_sub (pe_callB (k_lenS (K := K) rfl) (by rfl) T.z_len (by decide +kernel) (pa_cons (pv 3) pa_nil)) (k_fld (K := K) rfl (k_fld (K := K) rfl (pv 0) rfl) rfl))))) (fun _ _ _ _ _ => pe_bl)))
      (pss_one (ps_ret (pe_lc (own := [("path", 3)]) (g := gName 3) rfl sc_Tree_ends_of.nd (k_seqS (K := K) rfl (pv 1)) (blkOk_by (own := [("path", 3)]) (by kernel_rfl)) (fun _ _ _ _ _ => (pg_name (i := 3) sc_Tree_ends_of.nd rfl (by first | exact Or.inl rfl | exact Or.inr rfl))) (fun _ _ _ _ _ => pts_one (pt_cmp (pc_dnotin (u1 hr.units) (pv 3) (pv 2)) rfl)) (fun _ _ _ _ _ => (pv 3)))))), ?_⟩
    refine go_start (σ' := [some (.ref t), some (.ref a), none, none]) rfl ?_
    try dsimp only [cxOf, Cx.nox, Cx.wish]
    walk_at "GO"
    refine w_dc ?_
    walk_at "GO"
    have hcut : ∀ p : Path, size ≤ p.length → cutV ((natI p).map V.int) none (some (((natI p).length : Int) - (size : Int))) = (natI (aheadP size p)).map V.int := fun p hp => by
      have e : (((natI p).length : Int) - (size : Int)) = ((p.length - size : Nat) : Int) := by rw [natI_len]; omega
      rw [e, cutV_upto (by rw [List.length_map, natI_len]; omega)]
      unfold aheadP natI
      rw [← List.map_take, ← List.map_take]
    refine l_dcS (b := true) pvs (Sq.lst hA) hz (fun i kvs => ∀ q : Path, (valV kvs (keyI q)).isSome = decide (q ∈ (ps.take i).map (aheadP size))) (fun q => by simp [valV]) (fun _ => rfl) (fun i x H1 D kvs N hi hxi sm hD e1 hp hN => ?_) (fun D H1 kvs hD s1 e1 hkl hP => ?_)
    · obtain ⟨p, q0, hpi, rfl, hq0, hp1, hp2⟩ := get i x hxi
      have hSp : Sq false K H1 q0 ((natI p).map V.int) := Sq.tup (sm _ _ hq0)
      have h1 := sm _ _ h0
      have g1 := sm _ _ g0
      have hnl := natI_len p
      walk_at "GO"
      refine w_slTq (b := false) (ys := (natI (aheadP size p)).map V.int) (show Tq false K H1 q0 ((natI p).map V.int) from sm _ _ hq0) (hcut p hp1) fun q1 H4 s4 h4 => ?_
      have h4 : H4 q1 = some (.tup ((natI (aheadP size p)).map V.int)) := h4
      rw [← keyI_V] at h4
      walk_at "GO"
      refine hN q1 _ _ H4 s4 h4 fun q => ?_
      rw [valV_put, List.take_add_one, hpi, List.map_append]
      by_cases e : q = aheadP size p
      · rw [e, if_pos rfl]; simp
      · rw [if_neg (fun z => e (keyI_inj z)), hp q]
        simp [e]
    · have hP : ∀ q : Path, (valV kvs (keyI q)).isSome = decide (q ∈ ps.map (aheadP size)) := fun q => by
        rw [hP q, hl, List.take_length]
      have hA1 := s1 _ _ hA
      walk_at "GO"
      refine l_compGS (b := true) pvs hz (fun D2 i acc H2 => Same H1 H2 ∧ RA (RKey H) acc ((ps.take i).filter fun p => decide (p ∉ ps.map (aheadP size)))) (Sq.lst hA1) (fun _ => rfl) (fun D2 hD2 => ⟨Same.new hD2, RA.nil⟩) (fun D2 i acc H2 st => Sq.lst (st.1 _ _ hA1)) (fun i x H2 D2 acc NT NF hi hxi hD2 st e2 hal hTt hFf => ?_) (fun D2 H2 ys hD2 st e2 hyl => ?_)
      · obtain ⟨s2, r2⟩ := st
        obtain ⟨p, q0, hpi, rfl, hq0, hp1, hp2⟩ := get i x hxi
        have hq2 := s2 _ _ (s1 _ _ hq0)
        rw [← keyI_V] at hq2
        refine w_dnotin ?_
        walk_at "GO"
        refine ⟨D, _, rfl, DGet.t (s2 _ _ e1) hq2, ?_⟩
        rw [hP]
        have fs := r2.fsnoc (d := p) (v := V.ref q0) hpi
        by_cases hm : p ∈ ps.map (aheadP size)
        · rw [decide_eq_true hm]
          refine ⟨false, rfl, ?_⟩
          exact hFf H2 e2 ⟨s2, fs.2 (by simp [hm])⟩
        · rw [decide_eq_false hm]
          refine ⟨true, rfl, ?_⟩
          show tVar 3 _ H2 NT
          walk_at "GO"
          exact hTt _ H2 e2 ⟨Same.mut s2 hD2, fs.1 (by simp [hm]) ⟨q0, rfl, hq0⟩⟩
      · walk_at "GO"
        rw [hl, List.take_length] at st
        exact k D2 H2 ys (none_back s1 hD2) (s1.trans st.1) e2 st.2
def sp_Tree_oldest_of (K : PySem.W.Frag) (C : Addr) : Sp := fun vs H Q _ => ∃ (X : List Addr) (t st au ad D : Addr) (d : TreeD) (ys : List V) (p0 : Path) (ps : List Path), vs = [.ref t, .ref D] ∧ IsTree C X H t st au ad d ∧ H D = some (.lst ys) ∧ RA (RKey H) ys (p0 :: ps) ∧ (∀ p ∈ p0 :: ps, (d.used p).isSome = true) ∧
  ∀ a, H a = some (.tup ((natI ((p0 :: ps).foldl (oldS d.used) p0)).map V.int)) → Q (.ref a) H
theorem ok_Tree_oldest_of (T : Txt K mg) : FnOk P w K mg base CX0 1 T.a_Tree_oldest_of T.d_Tree_oldest_of ["self", "paths"] (sp_Tree_oldest_of K T.c_Tree) := by
  refine T.F_Tree_oldest_of.ok sc_Tree_oldest_of (fun vs H Q E h => ?_) (fun cdv A outer s H vs Q E hr h => ?_)
  · obtain ⟨_, _, _, _, _, _, _, _, _, _, rfl, _⟩ := h
    rfl
  · obtain ⟨X, t, st, au, ad, D, d, ys, p0, ps, rfl, hT, hD, hr1, hu, k⟩ := h
    have cT := T.C_Tree
    have n1 := T.n_Tree_used
    obtain ⟨dx, ap, avs, ku, kd, h0, _, _, _, _, had, hkd, _⟩ := id hT
    unfold TreeF at h0
    have hl := hr1.1
    obtain ⟨y0, yr, rfl⟩ : ∃ y0 yr, ys = y0 :: yr := by
      cases ys with
      | nil => cases hl
      | cons a b => exact ⟨a, b, rfl⟩
    obtain ⟨a0, rfl, ha0⟩ := hr1.2 0 y0 p0 rfl rfl
    refine ⟨_, (pss_cons (ps_set (i := 2) sc_Tree_oldest_of.nd rfl (Or.inl rfl) (pe_ix (k_ix (K := K) rfl) (pv 1) pe_int (fun _ _ => rfl)))
      (pss_cons (ps_for PassesOwn.never rfl (k_seqS (K := K) rfl (pv 1)) (pg_name (i := 3) sc_Tree_oldest_of.nd rfl (Or.inl rfl))
      (pss_one (ps_if (pt_cmpR op_lt (pe_dget (u1 hr.units) (k_fld (K := K) rfl (pv 0) rfl) (pv 3) (fun _ _ => rfl)) (pe_dget (u1 hr.units) (k_fld (K := K) rfl (pv 0) rfl) (pv 2) (fun _ _ => rfl)) (nomark _)) (pss_one (ps_set (i := 2) sc_Tree_oldest_of.nd rfl (Or.inl rfl) (pv 3))) pss_nil)))
      (pss_one (ps_ret (pv 2))))), ?_⟩
    refine go_start (σ' := [some (.ref t), some (.ref D), none, none]) rfl ?_
    try dsimp only [cxOf, Cx.nox, Cx.wish]
    walk_at "GO"
    refine l_seq (b := true) _ (fun i σ H' => ∃ (a : Addr) (y3 : Option V), σ = [some (.ref t), some (.ref D), some (.ref a), y3] ∧ H' = H ∧ H a = some (.tup ((natI (((p0 :: ps).take i).foldl (oldS d.used) p0)).map V.int))) (Sq.lst hD) ⟨a0, none, rfl, rfl, ha0⟩ (fun i σ H' _ ⟨_, _, _, e, _⟩ => by rw [e]; exact Sq.lst hD) ?_ ?_
    · rintro i x σ H1 hi hxi ⟨a, y3, rfl, rfl, ha⟩
      obtain ⟨p, hp⟩ : ∃ p, (p0 :: ps)[i]? = some p := ⟨_, List.getElem?_eq_getElem (by rw [← hl]; exact hi)⟩
      obtain ⟨q0, rfl, hq⟩ := hr1.2 i x p hxi hp
      have hq2 := hq
      have ha2 := ha
      have hold : ((p0 :: ps).take i).foldl (oldS d.used) p0 ∈ p0 :: ps := by
        rcases oldS_mem d.used ((p0 :: ps).take i) p0 with h | h
        · rw [h]; exact List.mem_cons_self
        · exact List.mem_of_mem_take h
      have hstep : ((p0 :: ps).take (i + 1)).foldl (oldS d.used) p0 = oldS d.used (((p0 :: ps).take i).foldl (oldS d.used) p0) p := by
        rw [List.take_add_one, hp, List.foldl_append]; rfl
      generalize ((p0 :: ps).take i).foldl (oldS d.used) p0 = o at ha ha2 hold hstep
      obtain ⟨c1, hc1⟩ := Option.isSome_iff_exists.mp (hu p (List.mem_of_getElem? hp))
      obtain ⟨c2, hc2⟩ := Option.isSome_iff_exists.mp (hu o hold)
      rw [← keyI_V] at hq2 ha2
      have g1 := DGet.t had hq2
      have g2 := DGet.t had ha2
      rw [hkd.val, hc1] at g1
      rw [hkd.val, hc2] at g2
      rw [hstep]
      unfold oldS
      rw [hc1, hc2]
      walk_at "GO"
      refine ⟨ad, .int (c1 : Int), rfl, g1, ?_⟩
      walk_at "GO"
      refine ⟨ad, .int (c2 : Int), rfl, g2, ?_⟩
      walk_at "GO"
      refine w_iteD (fun hlt => ?_) (fun hlt => ?_)
      · walk_at "GO"
        refine ⟨q0, _, rfl, rfl, ?_⟩
        rw [if_pos (show (some c1).getD 0 < (some c2).getD 0 by show c1 < c2; omega)]
        exact hq
      · walk_at "GO"
        refine ⟨a, _, rfl, rfl, ?_⟩
        rw [if_neg (show ¬ (some c1).getD 0 < (some c2).getD 0 by show ¬ c1 < c2; omega)]
        exact ha
    · rintro σ H1 ⟨a, y3, rfl, rfl, ha⟩
      walk_at "GO"
      rw [hl, List.take_length] at ha
      exact k a ha
def sp_Tree_drop (K : PySem.W.Frag) (C CS : Addr) : Sp := fun vs H Q _ => ∃ (X : List Addr) (t st au ad ac ak : Addr) (d : TreeD) (size : Nat) (cs : List Int) (kv : List (List V)), vs = [.ref t] ∧ IsTree C X H t st au ad d ∧ IsStoreV K CS H st ac ak size cs kv ∧ SOk size cs kv ∧ TreeOk size d ∧ (∀ p ∈ d.paths, p.length ≤ 1000) ∧ d.paths.length ≤ 10000 ∧ (∀ p b, d.under p = some b → b < cs.length) ∧ ac ∈ X ∧ ak ∈ X ∧ (∀ x ∈ X, ∃ o, H x = some o) ∧
  (dropP size d cs = none → ∀ H', Same H H' → Q (.bl false) H') ∧ (∀ x b, dropP size d cs = some x → d.under x = some b → ∀ H', FrS [t, au, ad, ac, ak] H H' → IsTree C X H' t st au ad (d.del x) → IsStoreV K CS H' st ac ak size (cs.set b (nth cs ((b : Nat) : Int) - 1)) (relK cs kv b) → Q (.bl true) H')
theorem ok_Tree_drop (T : Txt K mg) : FnOk P w K mg base CX0 5 T.a_Tree_drop T.d_Tree_drop ["self"] (sp_Tree_drop K T.c_Tree T.c_Store) := by
  refine T.F_Tree_drop.ok sc_Tree_drop (fun vs H Q E h => ?_) (fun cdv A outer s H vs Q E hr h => ?_)
  · obtain ⟨_, _, _, _, _, _, _, _, _, _, _, rfl, _⟩ := h
    rfl
  · obtain ⟨X, t, st, au, ad, ac, ak, d, size, cs, kv, rfl, hT, hI, sok, ok, hpl, hpz, hun, hX1, hX2, hXs, k1, k2⟩ := h
    have cT := T.C_Tree
    have cS := T.C_Store
    have n1 := T.n_Tree_paths
    have n2 := T.n_Tree_under
    have n3 := T.n_Tree_used
    have n4 := T.n_Tree_store
    have hs := ok.pos
    have hsz := sok.size
    obtain ⟨dx, ap, avs, ku, kd, h0, hap, hps, hau, hku, had, hkd, hne, hX⟩ := id hT
    obtain ⟨dy, g0, _⟩ := id hI
    unfold TreeF at h0
    unfold StoreF at g0
    have hl := hps.1
    refine ⟨_, (pss_cons (ps_setLc (i := 1) (own := [("path", 3)]) (g := gName 3) rfl sc_Tree_drop.nd rfl rfl (sw_true rfl rfl rfl (by decide +kernel)) (k_seqS (K := K) rfl (pe_meth (pv 0) T.C_Tree T.m_Tree_ends_of (ok_Tree_ends_of T) (hr.mono (by decide)) T.b_Tree_ends_of .nil pass0 (pa_cons (k_fld (K := K) rfl (pv 0) rfl) pa_nil))) (blkOk_by (own := [("path", 3)]) (by kernel_rfl)) (fun _ _ _ _ _ => (pg_name (i := 3) sc_Tree_drop.nd rfl (by first | exact Or.inl rfl | exact Or.inr rfl))) (fun _ _ _ _ _ => pts_one (pt_cmpR (k_eqG (K := K) rfl hr.units) (pe_meth (k_fld (K := K) rfl (pv 0) rfl) T.C_Store T.m_Store_holders (ok_Store_holders T) (hr.mono (by decide)) T.b_Store_holders .nil pass0 (pa_cons (pe_dget (u1 hr.units) (k_fld (K := K) rfl (pv 0) rfl) (pv 3) (fun _ _ => rfl)) pa_nil)) pe_int (nomark _))) (fun _ _ _ _ _ => (pv 3)))
      (pss_cons (ps_if (pt_cmpR (k_eqG (K := K) rfl hr.units) (pe_callB (k_lenS (K := K) rfl) (by rfl) T.z_len (by decide +kernel) (pa_cons (pv 1) pa_nil)) pe_int (nomark _)) (pss_one (ps_ret pe_bl)) pss_nil)
      (pss_cons (ps_set (i := 2) sc_Tree_drop.nd rfl (Or.inr rfl) (pe_meth (pv 0) T.C_Tree T.m_Tree_oldest_of (ok_Tree_oldest_of T) (hr.mono (by decide)) T.b_Tree_oldest_of .nil pass0 (pa_cons (pv 1) pa_nil)))
      (pss_cons (ps_expr (pe_meth (k_fld (K := K) rfl (pv 0) rfl) T.C_Store T.m_Store_release (ok_Store_release T) (hr.mono (by decide)) T.b_Store_release .nil pass0 (pa_cons (pe_dget (u1 hr.units) (k_fld (K := K) rfl (pv 0) rfl) (pv 2) (fun _ _ => rfl)) pa_nil)))
      (pss_cons (ps_ddelT (u1 hr.units) (k_fld (K := K) rfl (pv 0) rfl) (pv 2))
      (pss_cons (ps_ddelT (u1 hr.units) (k_fld (K := K) rfl (pv 0) rfl) (pv 2))
      (pss_cons (k_sfld (K := K) rfl (pv 0) (pe_lc (own := [("path", 3)]) (g := gName 3) rfl sc_Tree_drop.nd (k_seqS (K := K) rfl (k_fld (K := K) rfl (pv 0) rfl)) (blkOk_by (own := [("path", 3)]) (by kernel_rfl)) (fun _ _ _ _ _ => (pg_name (i := 3) sc_Tree_drop.nd rfl (by first | exact Or.inl rfl | exact Or.inr rfl))) (fun _ _ _ _ _ => pts_one (pt_cmpR (k_neG (K := K) rfl hr.units) (pv 3) (pv 2) (nomark _))) (fun _ _ _ _ _ => (pv 3))) rfl)
      (pss_one (ps_ret pe_bl))))))))), ?_⟩
    refine go_start (σ' := [some (.ref t), none, none, none]) rfl ?_
    try dsimp only [cxOf, Cx.nox, Cx.wish]
    walk_at "GO"
    have shp : ∀ p ∈ d.paths, size ≤ p.length ∧ p.length ≤ 1000 := fun p hp => by
      obtain ⟨n, hn⟩ := ok.shape p hp
      have := hpl p hp
      have e2 : (n + 1) * size = n * size + size := by rw [Nat.add_mul, Nat.one_mul]
      omega
    refine ⟨X, t, st, au, ad, ac, ak, ap, d, size, cs, kv, avs, d.paths, rfl, hT, hI, hs, by omega, hap, hps, shp, hpz, fun D H1 ys hD s1 e1 r1 => ?_⟩
    have hyl := r1.1
    have hez : (endsP size d.paths).length ≤ d.paths.length := List.length_filter_le _ _
    refine l_compGS (b := true) ys (by rw [sizeLine_eq]; omega) (fun D2 i acc H2 => Same H1 H2 ∧ RA (RKey H) acc (((endsP size d.paths).take i).filter (aloneP d cs))) (Sq.lst e1) (fun _ => rfl) (fun D2 hD2 => ⟨Same.new hD2, RA.nil⟩) (fun D2 i acc H2 st => Sq.lst (st.1 _ _ e1)) (fun i x H2 D2 acc NT NF hi hxi hD2 st e2 hal hTt hFf => ?_) (fun D2 H2 ys2 hD2 st e2 hyl2 => ?_)
    · obtain ⟨s2, r2⟩ := st
      obtain ⟨p, hp⟩ : ∃ p, (endsP size d.paths)[i]? = some p := ⟨_, List.getElem?_eq_getElem (by omega)⟩
      obtain ⟨q0, rfl, hq⟩ := r1.2 i x p hxi hp
      have hpm : p ∈ d.paths := (List.mem_filter.mp (List.mem_of_getElem? hp)).1
      obtain ⟨b, hb⟩ := Option.isSome_iff_exists.mp ((ok.dom p).mpr hpm)
      have hbl := hun p b hb
      have s02 := s1.trans s2
      have hq2 := s02 _ _ hq
      rw [← keyI_V] at hq2
      have g2 := DGet.t (s02 _ _ hau) hq2
      rw [hku.val, hb] at g2
      have h2 := s02 _ _ h0
      have gg2 := s02 _ _ g0
      have fs := r2.fsnoc (d := p) (v := V.ref q0) hp
      have ha : aloneP d cs p = decide (nth cs ((b : Nat) : Int) = 1) := by unfold aloneP; rw [hb]; rfl
      walk_at "GO"
      refine ⟨au, .int (b : Int), rfl, g2, ?_⟩
      refine ⟨st, ac, ak, size, .int (b : Int), some (b : Int), cs, kv, rfl, storeV_same s02 hI, rfl, fun b' hb' hlt => ?_, fun hbt => ?_⟩
      · obtain rfl : b = b' := by
          injection hb' with hb'
          omega
        walk_at "GO"
        by_cases h1 : nth cs ((b : Nat) : Int) = 1
        · rw [decide_eq_true h1] at ha ⊢
          show tVar 3 _ H2 NT
          walk_at "GO"
          exact hTt _ H2 e2 ⟨Same.mut s2 hD2, fs.1 ha ⟨q0, rfl, hq⟩⟩
        · rw [decide_eq_false h1] at ha ⊢
          exact hFf H2 e2 ⟨s2, fs.2 ha⟩
      · have hbt := of_decide_eq_false hbt
        omega
    · obtain ⟨s2, r2⟩ := st
      rw [hyl, List.take_length] at r2
      have r2 : RA (RKey H) ys2 (goesP size d cs) := r2
      have s02 := s1.trans s2
      have h2 := s02 _ _ h0
      have gg2 := s02 _ _ g0
      have hg2 := s02 _ _ hau
      have hd2 := s02 _ _ had
      have hl2 := r2.1
      have hSy : Sq true K H2 D2 ys2 := Sq.lst e2
      walk_at "GO"
      refine w_iteD (fun hz => ?_) (fun hz => ?_)
      · have hg : goesP size d cs = [] := List.length_eq_zero_iff.mp (by omega)
        walk_at "GO"
        exact k1 (dropP_none hg) H2 s02
      · obtain ⟨p0, ps, hg⟩ : ∃ p0 ps, goesP size d cs = p0 :: ps := by
          cases hg : goesP size d cs with
          | nil => rw [hg] at hl2; exact absurd (by rw [hl2]; rfl) hz
          | cons a b => exact ⟨a, b, rfl⟩
        have hdr := dropP_cons hg
        have hdm := goesP_mem (dropP_mem hdr)
        rw [hg] at r2
        walk_at "GO"
        refine ⟨X, t, st, au, ad, D2, d, ys2, p0, ps, rfl, hT.same s02, e2, r2.imp fun y q r => RKey.mono _ _ _ _ s02 r, fun p hp => (ok.udom p).mpr (goesP_mem (by rw [hg]; exact hp)).1, fun a ha => ?_⟩
        generalize (p0 :: ps).foldl (oldS d.used) p0 = x at hdr hdm ha
        obtain ⟨b, hb⟩ := Option.isSome_iff_exists.mp ((ok.dom x).mpr hdm.1)
        obtain ⟨c, hc⟩ := Option.isSome_iff_exists.mp ((ok.udom x).mpr hdm.1)
        have hbl := hun x b hb
        have hb1 : nth cs ((b : Nat) : Int) = 1 := by have := hdm.2.2; rw [hb] at this; exact this
        have ha2 := ha
        rw [← keyI_V] at ha2
        have gu := DGet.t hg2 ha2
        rw [hku.val, hb] at gu
        walk_at "GO"
        have hh : heldD cs (some (b : Int)) = some b := heldD_of hbl (by rw [hb1]; decide)
        have hT2 := hT.same s02
        have hI2 := storeV_same s02 hI
        refine ⟨au, .int (b : Int), rfl, gu, st, ac, ak, size, .int (b : Int), some (b : Int), cs, kv, rfl, hI2, sok, rfl, fun b' hb' H3 f3 hI3 => ?_, fun hn => by rw [hh] at hn; cases hn⟩
        obtain rfl : b = b' := Option.some.inj (hh.symm.trans hb')
        have hT3 := hT2.fr2 f3 hI2 hX1 hX2
        have nac : a ≠ ac := fun z => by
          obtain ⟨_, _, i2, _⟩ := id hI2
          rw [z, i2] at ha; cases ha
        have nak : a ≠ ak := fun z => by
          obtain ⟨_, _, _, ⟨_, i3, _⟩, _⟩ := id hI2
          rw [z, i3] at ha; cases ha
        have a3 := f3 _ _ nac nak ha
        have a3k := a3
        rw [← keyI_V] at a3k
        obtain ⟨dx3, ap3, pvs3, ku3, kd3, h3, hap3, hps3, hau3, hku3, had3, hkd3, _, hX3⟩ := id hT3
        unfold TreeF at h3
        have nts : t ≠ st := hT3.ne_store hI3
        have htu : t ≠ au := fun z => by rw [z, hau3] at h3; cases h3
        have htd : t ≠ ad := fun z => by rw [z, had3] at h3; cases h3
        have hapu : ap3 ≠ au := fun z => by rw [z, hau3] at hap3; cases hap3
        have hapd : ap3 ≠ ad := fun z => by rw [z, had3] at hap3; cases hap3
        have hxu : a ≠ au := fun z => by rw [z, hau3] at a3; cases a3
        have hxd : a ≠ ad := fun z => by rw [z, had3] at a3; cases a3
        have ntu : NTup (H3 au) := NTup.dT hau3
        have ntd : NTup (H3 ad) := NTup.dT had3
        clear h2 gg2 hg2 hd2 hSy gu ha2
        walk_at "GO"
        refine w_ddelT ?_
        walk_at "GO"
        refine ⟨au, a, ku3, keyI x, .int (b : Int), rfl, rfl, hau3, a3k, by rw [hku3.val, hb]; rfl, ?_⟩
        have h4 := (upd_ne (o := .dT (dropK ku3 (keyI x))) htu).trans h3
        have d4 := (upd_ne (o := .dT (dropK ku3 (keyI x))) (Ne.symm hne)).trans had3
        have x4 := (upd_ne (o := .dT (dropK ku3 (keyI x))) hxu).trans a3k
        walk_at "GO"
        refine w_ddelT ?_
        walk_at "GO"
        refine ⟨ad, a, kd3, keyI x, .int (c : Int), rfl, rfl, d4, x4, by rw [hkd3.val, hc]; rfl, ?_⟩
        have F3 : FrS [t, au, ad, ac, ak] H H3 := (FrS.same s02).trans (FrS.of2 f3 (by simp) (by simp))
        have F5 : FrS [t, au, ad, ac, ak] H (upd (upd H3 au (.dT (dropK ku3 (keyI x)))) ad (.dT (dropK kd3 (keyI x)))) := (F3.upd _ (by simp)).upd _ (by simp)
        have G5 : FrS [au, ad] H3 (upd (upd H3 au (.dT (dropK ku3 (keyI x)))) ad (.dT (dropK kd3 (keyI x)))) := ((FrS.same (Same.refl _)).upd _ (by simp)).upd _ (by simp)
        have nt3 : ∀ c ∈ [au, ad], NTup (H3 c) := fun c hc => by
          simp only [List.mem_cons, List.not_mem_nil, or_false] at hc
          rcases hc with rfl | rfl
          · exact ntu
          · exact ntd
        have u5 : (upd (upd H3 au (.dT (dropK ku3 (keyI x)))) ad (.dT (dropK kd3 (keyI x)))) au = some (.dT (dropK ku3 (keyI x))) := (upd_ne hne).trans upd_same
        have d5 : (upd (upd H3 au (.dT (dropK ku3 (keyI x)))) ad (.dT (dropK kd3 (keyI x)))) ad = some (.dT (dropK kd3 (keyI x))) := upd_same
        generalize upd (upd H3 au (.dT (dropK ku3 (keyI x)))) ad (.dT (dropK kd3 (keyI x))) = H5 at F5 G5 u5 d5 ⊢
        clear h4 d4 x4
        have h5 := G5.at (b := t) (by simp [htu, htd]) h3
        have ap5 := G5.at (b := ap3) (by simp [hapu, hapd]) hap3
        have x5 := G5.at (b := a) (by simp [hxu, hxd]) a3
        have r5 : RA (RKey H5) pvs3 d.paths := hps3.imp fun y p r => RKey.mono _ _ _ _ G5 (rep_hs RKey.tup r nt3)
        obtain ⟨_, j1, j2, ⟨_, j3, _⟩, _⟩ := id hI3
        have hI5 := storeV_frS G5 nt3 (fun m => by
          simp only [List.mem_cons, List.not_mem_nil, or_false] at m
          rcases m with m | m
          · rw [m, hau3] at j1; cases j1
          · rw [m, had3] at j1; cases j1) (fun m => by
          simp only [List.mem_cons, List.not_mem_nil, or_false] at m
          rcases m with m | m
          · rw [m, hau3] at j2; cases j2
          · rw [m, had3] at j2; cases j2) (fun m => by
          simp only [List.mem_cons, List.not_mem_nil, or_false] at m
          rcases m with m | m
          · rw [m, hau3] at j3; cases j3
          · rw [m, had3] at j3; cases j3) hI3
        walk_at "GO"
        have hl5 := r5.1
        refine l_compGS (b := true) pvs3 (by rw [sizeLine_eq]; omega) (fun D6 i acc H6 => Same H5 H6 ∧ RA (RKey H5) acc ((d.paths.take i).filter fun p => decide (p ≠ x))) (Sq.lst ap5) (fun _ => rfl) (fun D6 hD6 => ⟨Same.new hD6, RA.nil⟩) (fun D6 i acc H6 st => Sq.lst (st.1 _ _ ap5)) (fun i y H6 D6 acc NT NF hi hyi hD6 st e6 hal hTt hFf => ?_) (fun D6 H6 zs hD6 st e6 hzl => ?_)
        · obtain ⟨s6, r6⟩ := st
          obtain ⟨p, hp⟩ : ∃ p, d.paths[i]? = some p := ⟨_, List.getElem?_eq_getElem (by omega)⟩
          obtain ⟨q0, rfl, hq⟩ := r5.2 i y p hyi hp
          have fs := r6.fsnoc (d := p) (v := V.ref q0) hp
          walk_at "GO"
          refine w_neKey (p := p) (q := x) ⟨q0, rfl, s6 _ _ hq⟩ ⟨a, rfl, s6 _ _ x5⟩ ?_
          walk_at "GO"
          by_cases hpx : p ≠ x
          · rw [decide_eq_true hpx]
            show tVar 3 _ H6 NT
            walk_at "GO"
            exact hTt _ H6 e6 ⟨Same.mut s6 hD6, fs.1 (decide_eq_true hpx) ⟨q0, rfl, hq⟩⟩
          · rw [decide_eq_false hpx]
            exact hFf H6 e6 ⟨s6, fs.2 (decide_eq_false hpx)⟩
        · obtain ⟨s6, r6⟩ := st
          rw [hl5, List.take_length] at r6
          have h6 := s6 _ _ h5
          walk_at "GO"
          have hDt : D6 ≠ t := fun z => by rw [z, h6] at e6; cases e6
          have ntt : NTup (H6 t) := NTup.ins h6
          have hDX : D6 ∉ X := fun m => by
            obtain ⟨o, ho⟩ := hXs D6 m
            by_cases hm : D6 ∈ [t, au, ad, ac, ak]
            · obtain ⟨_, i1, i2, ⟨_, i3, _⟩, _⟩ := id hI5
              simp only [List.mem_cons, List.not_mem_nil, or_false] at hm
              rcases hm with rfl | rfl | rfl | rfl | rfl
              · rw [h5] at hD6; cases hD6
              · rw [u5] at hD6; cases hD6
              · rw [d5] at hD6; cases hD6
              · rw [i2] at hD6; cases hD6
              · rw [i3] at hD6; cases hD6
            · have hn := none_back F5 hD6
              rw [hs_ne hm, ho] at hn; cases hn
          have hD1 : (TreeF st D6 au ad d.clock) = TreeF st D6 au ad (d.del x).clock := rfl
          refine k2 x b hdr hb _ (F5.trans ((FrS.same s6).upd _ (by simp))) ⟨dx3, D6, zs, _, _, upd_same, (upd_ne hDt).trans e6, r6.imp fun y q r => RTup.upd RKey.tup RKey.mono ntt (RKey.mono _ _ _ _ s6 r), (upd_ne (Ne.symm htu)).trans (s6 _ _ u5), hku3.del x, (upd_ne (Ne.symm htd)).trans (s6 _ _ d5), hkd3.del x, hne, hDX⟩ (storeV_updI h6 nts (storeV_same s6 hI5))

/-! ### _law_same of tapes' laws: True of the same data -/
def SmB (K : PySem.W.Frag) (H : Hp) : Nat → V → V → Prop
  | 0, x, y => x = y ∧ (x = .non ∨ (∃ b, x = .bl b) ∨ (∃ i, x = .int i) ∨ ∃ s, x = .str s)
  | n + 1, x, y => (x = y ∧ (x = .non ∨ (∃ b, x = .bl b) ∨ (∃ i, x = .int i) ∨ ∃ s, x = .str s)) ∨
    ∃ (a a' : Addr) (xs ys : List V), x = .ref a ∧ y = .ref a' ∧ SqT K H a xs ∧ SqT K H a' ys ∧ xs.length = ys.length ∧ ys.length ≤ 100000 ∧ ∀ (i : Nat) x' y', xs[i]? = some x' → ys[i]? = some y' → SmB K H n x' y'
theorem SmB.int {K : PySem.W.Frag} {H : Hp} {n : Nat} {i : Int} : SmB K H n (.int i) (.int i) := by
  cases n
  · exact ⟨rfl, .inr (.inr (.inl ⟨i, rfl⟩))⟩
  · exact .inl ⟨rfl, .inr (.inr (.inl ⟨i, rfl⟩))⟩
theorem SmB.bl {K : PySem.W.Frag} {H : Hp} {n : Nat} {b : Bool} : SmB K H n (.bl b) (.bl b) := by
  cases n
  · exact ⟨rfl, .inr (.inl ⟨b, rfl⟩)⟩
  · exact .inl ⟨rfl, .inr (.inl ⟨b, rfl⟩)⟩
theorem SmB.vec {K : PySem.W.Frag} {H : Hp} {n : Nat} {x y : V} {ns : List Int} (hz : ns.length ≤ 100000) (h1 : RVec false K H x ns) (h2 : RVec false K H y ns) : SmB K H (n + 1) x y := by
  obtain ⟨a, rfl, hx⟩ := h1
  obtain ⟨a', rfl, hy⟩ := h2
  refine .inr ⟨a, a', _, _, rfl, rfl, hx, hy, rfl, by rw [List.length_map]; exact hz, fun i x' y' e1 e2 => ?_⟩
  rw [(vec_at e1).1, (vec_at e2).1]
  exact SmB.int
theorem SmB.seq {K : PySem.W.Frag} {H : Hp} {α : Type} {R S : Rep α} {n : Nat} {x y : V} {ds : List α} (hz : ds.length ≤ 100000) (hRS : ∀ x y d, d ∈ ds → R H x d → S H y d → SmB K H n x y) (h1 : RSeq false K R H x ds) (h2 : RSeq false K S H y ds) : SmB K H (n + 1) x y := by
  obtain ⟨a, xs, rfl, hx, hxl, hxr⟩ := h1
  obtain ⟨a', ys, rfl, hy, hyl, hyr⟩ := h2
  refine .inr ⟨a, a', xs, ys, rfl, rfl, hx, hy, by omega, by omega, fun i x' y' e1 e2 => ?_⟩
  have hi := (List.getElem?_eq_some_iff.mp e1).1
  have hd : ds[i]? = some (ds[i]'(by omega)) := List.getElem?_eq_getElem (by omega)
  exact hRS _ _ _ (List.mem_of_getElem? hd) (hxr i _ _ e1 hd) (hyr i _ _ e2 hd)
def sp_L_same (K : PySem.W.Frag) (n : Nat) : Sp := fun vs H Q _ => ∃ x y : V, vs = [x, y] ∧ SmB K H n x y ∧ Q (.bl true) H
theorem same_step (T : Txt K mg) {n k : Nat} (G : FnOk P w K mg base CX0 k T.a_L_same T.d_L_same ["_law_told", "_law_due"] (fun vs H Q E => ∃ m, n = m + 1 ∧ sp_L_same K m vs H Q E)) :
    FnOk P w K mg base CX0 (k + 1) T.a_L_same T.d_L_same ["_law_told", "_law_due"] (sp_L_same K n) := by
  refine T.F_L_same.ok sc_L_same (fun vs H Q E h => ?_) (fun cdv A outer s H vs Q E hr h => ?_)
  · obtain ⟨_, _, rfl, _⟩ := h
    rfl
  · obtain ⟨x, y, rfl, hS, q⟩ := h
    refine ⟨_, (pss_cons (ps_if (k_tru (K := K) rfl (pe_callB (k_isi (K := K) rfl) (by rfl) T.z_isinstance (by decide +kernel) (pa_cons (pv 1) (pa_cons (pe_bltn (v := .ty "tuple") (by rfl) T.z_tuple (by decide +kernel) rfl) pa_nil))) (by intro _; rfl)) (pss_cons (ps_if (PW.pt (pw_or (pt_not (k_tru (K := K) rfl (pe_callB (k_isi (K := K) rfl) (by rfl) T.z_isinstance (by decide +kernel) (pa_cons (pv 0) (pa_cons (pe_bltn (v := .ty "tuple") (by rfl) T.z_tuple (by decide +kernel) rfl) pa_nil))) (by intro _; rfl))) (pw_or1 (pt_cmpR (k_neG (K := K) rfl hr.units) (pe_callB (k_lenS (K := K) rfl) (by rfl) T.z_len (by decide +kernel) (pa_cons (pv 0) pa_nil)) (pe_callB (k_lenS (K := K) rfl) (by rfl) T.z_len (by decide +kernel) (pa_cons (pv 1) pa_nil)) (nomark _))))) (pss_one (ps_ret pe_bl)) pss_nil)
      (pss_cons (ps_for PassesOwn.never rfl (pi_range1 rfl T.z_range (pa_cons (pe_callB (k_lenS (K := K) rfl) (by rfl) T.z_len (by decide +kernel) (pa_cons (pv 1) pa_nil)) pa_nil)) (pg_name (i := 2) sc_L_same.nd rfl (Or.inl rfl))
      (pss_one (ps_if (pt_not (k_tru (K := K) rfl (pe_call G hr (by rfl) T.g_L_same T.F_L_same.kp T.b_L_same .nil pass0 (pa_cons (pe_ix (k_ix (K := K) rfl) (pv 0) (pv 2) (fun _ _ => rfl)) (pa_cons (pe_ix (k_ix (K := K) rfl) (pv 1) (pv 2) (fun _ _ => rfl)) pa_nil))) (by intro _; rfl))) (pss_one (ps_ret pe_bl)) pss_nil)))
      (pss_one (ps_ret pe_bl)))) pss_nil)
      (pss_cons (ps_if (pt_cmpR op_isNN (pv 1) pe_non (nomark _)) (pss_one (ps_ret (pe_cmpR op_isNN (pv 0) pe_non (nomark _)))) pss_nil)
      (pss_cons (ps_if (k_tru (K := K) rfl (pe_callB (k_isi (K := K) rfl) (by rfl) T.z_isinstance (by decide +kernel) (pa_cons (pv 1) (pa_cons (pe_bltn (v := .ty "bool") (by rfl) T.z_bool (by decide +kernel) rfl) pa_nil))) (by intro _; rfl)) (pss_one (ps_ret (pe_and (pe_callB (k_isi (K := K) rfl) (by rfl) T.z_isinstance (by decide +kernel) (pa_cons (pv 0) (pa_cons (pe_bltn (v := .ty "bool") (by rfl) T.z_bool (by decide +kernel) rfl) pa_nil))) (pe_one (pe_cmpR (k_eqG (K := K) rfl hr.units) (pv 0) (pv 1) (nomark _)))))) pss_nil)
      (pss_cons (ps_if (k_tru (K := K) rfl (pe_callB (k_isi (K := K) rfl) (by rfl) T.z_isinstance (by decide +kernel) (pa_cons (pv 1) (pa_cons (pe_bltn (v := .ty "str") (by rfl) T.z_str (by decide +kernel) rfl) pa_nil))) (by intro _; rfl)) (pss_one (ps_ret (pe_and (pe_callB (k_isi (K := K) rfl) (by rfl) T.z_isinstance (by decide +kernel) (pa_cons (pv 0) (pa_cons (pe_bltn (v := .ty "str") (by rfl) T.z_str (by decide +kernel) rfl) pa_nil))) (pe_one (pe_cmpR (k_eqG (K := K) rfl hr.units) (pv 0) (pv 1) (nomark _)))))) pss_nil)
      (pss_one (ps_ret (pe_and (pe_callB (k_isi (K := K) rfl) (by rfl) T.z_isinstance (by decide +kernel) (pa_cons (pv 0) (pa_cons (pe_bltn (v := .ty "int") (by rfl) T.z_int (by decide +kernel) rfl) pa_nil))) (pe_and (pe_not (pe_callB (k_isi (K := K) rfl) (by rfl) T.z_isinstance (by decide +kernel) (pa_cons (pv 0) (pa_cons (pe_bltn (v := .ty "bool") (by rfl) T.z_bool (by decide +kernel) rfl) pa_nil)))) (pe_one (pe_cmpR (k_eqG (K := K) rfl hr.units) (pv 0) (pv 1) (nomark _))))))))))), ?_⟩
    refine go_start (σ' := [some x, some y, none]) rfl ?_
    try dsimp only [cxOf, Cx.nox, Cx.wish]
    have hflat : (x = y ∧ (x = .non ∨ (∃ b, x = .bl b) ∨ (∃ i, x = .int i) ∨ ∃ s, x = .str s)) ∨
        ∃ (m : Nat) (a a' : Addr) (xs ys : List V), n = m + 1 ∧ x = .ref a ∧ y = .ref a' ∧ SqT K H a xs ∧ SqT K H a' ys ∧ xs.length = ys.length ∧ ys.length ≤ 100000 ∧ ∀ (i : Nat) x' y', xs[i]? = some x' → ys[i]? = some y' → SmB K H m x' y' := by
      cases n with
      | zero => exact .inl hS
      | succ m =>
        rcases hS with h | ⟨a, a', xs, ys, h1, h2, h3, h4, h5, hz, h6⟩
        · exact .inl h
        · exact .inr ⟨m, a, a', xs, ys, rfl, h1, h2, h3, h4, h5, hz, h6⟩
    rcases hflat with ⟨rfl, rfl | ⟨b, rfl⟩ | ⟨i, rfl⟩ | ⟨z, rfl⟩⟩ | ⟨m, a, a', xs, ys, rfl, rfl, rfl, hx, hy, hl, hz, hxy⟩
    · walk_at "go"
      refine w_isi (tn := "NoneType") (b := false) (.base .non) (by decide +kernel) ?_
      walk_at "go"
      exact q
    · walk_at "go"
      refine w_isi (tn := "bool") (b := false) (.base (.bl _)) (by decide +kernel) ?_
      walk_at "go"
      refine w_isi (tn := "bool") (b := true) (.base (.bl _)) (by decide +kernel) ?_
      walk_at "go"
      refine w_isi (tn := "bool") (b := true) (.base (.bl _)) (by decide +kernel) ?_
      walk_at "go"
      refine w_eqS rfl ?_
      rw [decide_eq_true rfl]
      exact q
    · walk_at "go"
      refine w_isi (tn := "int") (b := false) (.base (.int _)) (by decide +kernel) ?_
      walk_at "go"
      refine w_isi (tn := "int") (b := false) (.base (.int _)) (by decide +kernel) ?_
      walk_at "go"
      refine w_isi (tn := "int") (b := false) (.base (.int _)) (by decide +kernel) ?_
      walk_at "go"
      refine w_isi (tn := "int") (b := true) (.base (.int _)) (by decide +kernel) ?_
      walk_at "go"
      refine w_isi (tn := "int") (b := false) (.base (.int _)) (by decide +kernel) ?_
      walk_at "go"
      rw [decide_eq_true rfl]
      exact q
    · walk_at "go"
      refine w_isi (tn := "str") (b := false) (.base (.str _)) (by decide +kernel) ?_
      walk_at "go"
      refine w_isi (tn := "str") (b := false) (.base (.str _)) (by decide +kernel) ?_
      walk_at "go"
      refine w_isi (tn := "str") (b := true) (.base (.str _)) (by decide +kernel) ?_
      walk_at "go"
      refine w_isi (tn := "str") (b := true) (.base (.str _)) (by decide +kernel) ?_
      walk_at "go"
      refine w_eqS rfl ?_
      rw [decide_eq_true rfl]
      exact q
    · have hx' : Sq false K H a xs := hx
      have hy' : Sq false K H a' ys := hy
      walk_at "go"
      refine w_isi (tn := "tuple") (b := true) (tyx_tup hy) (by decide +kernel) ?_
      walk_at "go"
      refine w_isi (tn := "tuple") (b := true) (tyx_tup hx) (by decide +kernel) ?_
      walk_at "go"
      refine w_iteN (fun hc => absurd (show ((xs.length : Nat) : Int) = ys.length by rw [hl]) hc) (fun _ => ?_)
      walk_at "go"
      refine l_range (fun i σ H' => ∃ y2, σ = [some (.ref a), some (.ref a'), y2] ∧ H' = H) (by omega) (by omega) ⟨none, rfl, rfl⟩ ?_ ?_
      · rintro i σ H' hi ⟨y2, rfl, rfl⟩
        have hi2 : i < ys.length := by omega
        have ex : xs[i]? = some (xs[i]'(by omega)) := List.getElem?_eq_getElem (by omega)
        have ey : ys[i]? = some (ys[i]'hi2) := List.getElem?_eq_getElem hi2
        walk_at "go"
        refine w_ix hx' (atI_nat ex) ?_
        walk_at "go"
        refine w_ix hy' (atI_nat ey) ?_
        walk_at "go"
        refine ⟨m, rfl, _, _, rfl, hxy i _ _ ex ey, ?_⟩
        walk_at "go"
        exact ⟨_, rfl, rfl⟩
      · rintro σ H' ⟨y2, rfl, rfl⟩
        walk_at "go"
        exact q
theorem ok_L_same_at (T : Txt K mg) : ∀ n : Nat, FnOk P w K mg base CX0 (n + 1) T.a_L_same T.d_L_same ["_law_told", "_law_due"] (sp_L_same K n)
  | 0 => same_step T (k := 0) ⟨fun vs H Q E h => by obtain ⟨m, e, _⟩ := h; exact absurd e (by omega), fun A outer s H args us vs Q E hr he hb hv h => by obtain ⟨m, e, _⟩ := h; exact absurd e (by omega)⟩
  | n + 1 => same_step T ((ok_L_same_at T n).imp fun vs H Q E h => by
      obtain ⟨m, e, h⟩ := h
      have e2 : m = n := by omega
      subst e2
      exact h)

/-- list(row) or tuple(row), as drawn, of a tuple in the heap -/
def sp_L_as (K : PySem.W.Frag) : Sp := fun vs H Q _ => ∃ (p a : Addr) (xs : List V), vs = [.ref p, .ref a] ∧ IsPool H p ∧ H a = some (.tup xs) ∧ xs.length ≤ 100000 ∧
  ∀ (a' : Addr) (b' : Bool) H', Fr p H H' → IsPool H' p → Tq b' K H' a' xs → (b' = true → H a' = none) → Q (.ref a') H'
theorem ok_L_as (T : Txt K mg) : FnOk P w K mg base CX0 2 T.a_L_as T.d_L_as ["_law_pool_here", "_law_row_here"] (sp_L_as K) := by
  refine T.F_L_as.ok sc_L_as (fun vs H Q E h => ?_) (fun cdv A outer s H vs Q E hr h => ?_)
  · obtain ⟨_, _, _, rfl, _⟩ := h
    rfl
  · obtain ⟨p, a, xs, rfl, hP, ha, hz, k⟩ := h
    refine ⟨_, (pss_cons (ps_if (pt_cmpR (k_eqG (K := K) rfl hr.units) (pe_call (ok_L_draw T) (hr.mono (by decide)) (by rfl) T.g_L_draw T.F_L_draw.kp T.b_L_draw .nil pass0 (pa_cons (pv 0) (pa_cons pe_int pa_nil))) pe_int (nomark _)) (pss_one (ps_ret (pe_callTy (k_listS (K := K) rfl) (by rfl) T.z_list (by decide +kernel) (pa_cons (pv 1) pa_nil)))) pss_nil)
      (pss_one (ps_ret (pe_callTy (k_tupS (K := K) rfl) (by rfl) T.z_tuple (by decide +kernel) (pa_cons (pv 1) pa_nil))))), ?_⟩
    refine go_start (σ' := [some (.ref p), some (.ref a)]) rfl ?_
    try dsimp only [cxOf, Cx.nox, Cx.wish]
    walk_at "GO"
    refine ⟨p, 2, rfl, hP, by omega, fun r H1 r0 r1 f1 hP1 => ?_⟩
    have ha1 : H1 a = some (.tup xs) := f1 _ _ (fun z => by
      obtain ⟨ns, q1, _⟩ := hP
      rw [z, q1] at ha
      cases ha) ha
    have hS1 : Sq false K H1 a xs := Sq.tup ha1
    walk_at "GO"
    refine w_iteD (fun h0 => ?_) (fun h0 => ?_)
    · walk_at "GO"
      rename_i q H2 hq s2 e2
      exact k q true H2 (f1.trans (Fr.same s2)) (hP1.same s2) (Sq.lst e2) fun _ => fr_none f1 (hP1.ne hq) hq
    · walk_at "GO"
      exact k a false H1 f1 hP1 ha1 fun z => (by cases z)

/-! ### the law's own tree: its state -/
def StF (size many letters : Nat) (tr us ho cl mi : Addr) : List (Key × V) := [(.inr "size", .int size), (.inr "many", .int many), (.inr "letters", .int letters), (.inr "tree", .ref tr), (.inr "used", .ref us), (.inr "holders", .ref ho), (.inr "clock", .ref cl), (.inr "mine", .ref mi)]
section
variable {size many letters : Nat} {tr us ho cl mi : Addr}
theorem st_size : valV (StF size many letters tr us ho cl mi) (.inr "size") = some (.int size) := val_pos
theorem st_many : valV (StF size many letters tr us ho cl mi) (.inr "many") = some (.int many) := (val_neg (by decide +kernel)).trans val_pos
theorem st_letters : valV (StF size many letters tr us ho cl mi) (.inr "letters") = some (.int letters) := (val_neg (by decide +kernel)).trans ((val_neg (by decide +kernel)).trans val_pos)
theorem st_tree : valV (StF size many letters tr us ho cl mi) (.inr "tree") = some (.ref tr) := (val_neg (by decide +kernel)).trans ((val_neg (by decide +kernel)).trans ((val_neg (by decide +kernel)).trans val_pos))
theorem st_used : valV (StF size many letters tr us ho cl mi) (.inr "used") = some (.ref us) := (val_neg (by decide +kernel)).trans ((val_neg (by decide +kernel)).trans ((val_neg (by decide +kernel)).trans ((val_neg (by decide +kernel)).trans val_pos)))
theorem st_holders : valV (StF size many letters tr us ho cl mi) (.inr "holders") = some (.ref ho) := (val_neg (by decide +kernel)).trans ((val_neg (by decide +kernel)).trans ((val_neg (by decide +kernel)).trans ((val_neg (by decide +kernel)).trans ((val_neg (by decide +kernel)).trans val_pos))))
theorem st_clock : valV (StF size many letters tr us ho cl mi) (.inr "clock") = some (.ref cl) := (val_neg (by decide +kernel)).trans ((val_neg (by decide +kernel)).trans ((val_neg (by decide +kernel)).trans ((val_neg (by decide +kernel)).trans ((val_neg (by decide +kernel)).trans ((val_neg (by decide +kernel)).trans val_pos)))))
theorem st_mine : valV (StF size many letters tr us ho cl mi) (.inr "mine") = some (.ref mi) := (val_neg (by decide +kernel)).trans ((val_neg (by decide +kernel)).trans ((val_neg (by decide +kernel)).trans ((val_neg (by decide +kernel)).trans ((val_neg (by decide +kernel)).trans ((val_neg (by decide +kernel)).trans ((val_neg (by decide +kernel)).trans val_pos))))))
end
structure Adr where
  p : Addr
  ls : Addr
  tr : Addr
  us : Addr
  ho : Addr
  cl : Addr
  mi : Addr
  t : Addr
  st : Addr
  au : Addr
  ad : Addr
  ac : Addr
  ak : Addr
abbrev Adr.sl (A : Adr) : List Addr := [A.ls, A.tr, A.us, A.ho, A.cl, A.mi]
abbrev Adr.sT (A : Adr) : List Addr := [A.t, A.au, A.ad]
abbrev Adr.sS (A : Adr) : List Addr := [A.st, A.ac, A.ak]
abbrev Adr.X (A : Adr) : List Addr := A.p :: (A.sl ++ A.sS)
structure SD where
  size : Nat
  many : Nat
  letters : Nat
  N : Nat
  d : TreeD
  cs : List Int
  kv : List (List V)
  mine : List Nat
  off : Nat
structure LT (H : Hp) (A : Adr) (s : SD) : Prop where
  st : H A.ls = some (.dK (StF s.size s.many s.letters A.tr A.us A.ho A.cl A.mi))
  tree : ∃ kt, H A.tr = some (.dT kt) ∧ DN kt s.d.under
  used : ∃ ku U, H A.us = some (.dT ku) ∧ DN ku U ∧ (∀ p c, s.d.used p = some c → ∃ c', U p = some c' ∧ c' + s.off = c) ∧ ku.length ≤ s.N
  hold : H A.ho = some (.lst (s.cs.map V.int))
  clock : ∃ lc : Nat, H A.cl = some (.lst (([((lc : Nat) : Int)] : List Int).map V.int)) ∧ lc + s.off = s.d.clock
  mine : H A.mi = some (.lst ((natI s.mine).map V.int))
  n1 : A.tr ≠ A.us
  n2 : A.ho ≠ A.cl
  n3 : A.ho ≠ A.mi
  n4 : A.cl ≠ A.mi
section
variable {H H' : Hp} {A : Adr} {s : SD} {S : List Addr}
theorem LT.frS (h : LT H A s) (f : FrS S H H') (n : ∀ c ∈ A.sl, c ∉ S) : LT H' A s := by
  obtain ⟨kt, t1, t2⟩ := h.tree
  obtain ⟨ku, U, u1, u2, u3, u4⟩ := h.used
  obtain ⟨lc, c1, c2⟩ := h.clock
  exact ⟨f.at (n _ (by simp)) h.st, ⟨kt, f.at (n _ (by simp)) t1, t2⟩, ⟨ku, U, f.at (n _ (by simp)) u1, u2, u3, u4⟩, f.at (n _ (by simp)) h.hold, ⟨lc, f.at (n _ (by simp)) c1, c2⟩, f.at (n _ (by simp)) h.mine, h.n1, h.n2, h.n3, h.n4⟩
theorem LT.same (h : LT H A s) (f : Same H H') : LT H' A s := h.frS (S := []) f (by simp)
theorem LT.nt (h : LT H A s) : ∀ c ∈ A.sl, NTup (H c) := fun c hc => by
  obtain ⟨kt, t1, t2⟩ := h.tree
  obtain ⟨ku, U, u1, u2, u3, u4⟩ := h.used
  obtain ⟨lc, c1, c2⟩ := h.clock
  simp only [Adr.sl, List.mem_cons, List.not_mem_nil, or_false] at hc
  rcases hc with rfl | rfl | rfl | rfl | rfl | rfl
  · rw [h.st]; trivial
  · exact NTup.dT t1
  · exact NTup.dT u1
  · exact NTup.lst h.hold
  · exact NTup.lst c1
  · exact NTup.lst h.mine
end
def treeCnt (d : TreeD) (b : Nat) : Nat := (d.paths.filter fun p => d.under p == some b).length
structure JL (K : PySem.W.Frag) (C CS : Addr) (H : Hp) (A : Adr) (s : SD) : Prop where
  pool : IsPool H A.p
  law : LT H A s
  tree : IsTree C A.X H A.t A.st A.au A.ad s.d
  store : IsStoreV K CS H A.st A.ac A.ak s.size s.cs s.kv
  sok : SOk s.size s.cs s.kv
  tok : TreeOk s.size s.d
  dPL : A.p ∉ A.sl
  dPT : A.p ∉ A.sT
  dPS : A.p ∉ A.sS
  dLT : ∀ c ∈ A.sl, c ∉ A.sT
  dLS : ∀ c ∈ A.sl, c ∉ A.sS
  dTS : ∀ c ∈ A.sT, c ∉ A.sS
  many : s.cs.length = s.many
  lets : 1 ≤ s.letters ∧ s.letters ≤ 12
  und : ∀ p b, s.d.under p = some b → b < s.cs.length
  cnt : ∀ b : Nat, b < s.cs.length → nth s.cs ((b : Nat) : Int) = (treeCnt s.d b : Int) + (s.mine.count b : Int)
  minb : ∀ b ∈ s.mine, b < s.cs.length
  long : ∀ p ∈ s.d.paths, p.length ≤ 80
  few : s.mine.length ≤ s.N
theorem storeV_nt {K : PySem.W.Frag} {CS s ac ak : Addr} {size : Int} {cs : List Int} {kv : List (List V)} {H : Hp} (h : IsStoreV K CS H s ac ak size cs kv) : ∀ c ∈ [s, ac, ak], NTup (H c) := fun c hc => by
  obtain ⟨dx, h1, h2, ⟨ks, g1, g2, g3⟩, h4⟩ := h
  simp only [List.mem_cons, List.not_mem_nil, or_false] at hc
  rcases hc with rfl | rfl | rfl
  · exact NTup.ins h1
  · exact NTup.lst h2
  · exact NTup.lst g1
theorem pool_frS {H H' : Hp} {p : Addr} {S : List Addr} (h : IsPool H p) (f : FrS S H H') (n : p ∉ S) : IsPool H' p := by
  obtain ⟨ns, h1, h2⟩ := h
  exact ⟨ns, f.at n h1, h2⟩
section
variable {K : PySem.W.Frag} {C CS : Addr} {H H' : Hp} {A : Adr} {s : SD} {S : List Addr}
theorem notin_sw {l m : List Addr} (h : ∀ c ∈ l, c ∉ m) : ∀ c ∈ m, c ∉ l := fun c hc hl => h c hl hc
theorem JL.same (j : JL K C CS H A s) (f : Same H H') : JL K C CS H' A s :=
  ⟨j.pool.same f, j.law.same f, j.tree.same f, storeV_same f j.store, j.sok, j.tok, j.dPL, j.dPT, j.dPS, j.dLT, j.dLS, j.dTS, j.many, j.lets, j.und, j.cnt, j.minb, j.long, j.few⟩
/-- the pool goes on -/
theorem JL.draw (j : JL K C CS H A s) (f : Fr A.p H H') (hp : IsPool H' A.p) : JL K C CS H' A s := by
  have F : FrS [A.p] H H' := FrS.of f (by simp)
  have hn : ∀ c ∈ [A.p], NTup (H c) := fun c hc => by rw [List.mem_singleton.mp hc]; exact j.pool.nt
  have hT := j.dPT
  have hS := j.dPS
  simp only [Adr.sT, Adr.sS, List.mem_cons, List.not_mem_nil, or_false, not_or] at hT hS
  exact ⟨hp, j.law.frS F fun c hc m => j.dPL (by rw [← List.mem_singleton.mp m]; exact hc), j.tree.frS F hn (by simp [Ne.symm hT.1]) (by simp [Ne.symm hT.2.1]) (by simp [Ne.symm hT.2.2]) (fun c hc => by rw [List.mem_singleton.mp hc]; simp), storeV_frS F hn (by simp [Ne.symm hS.1]) (by simp [Ne.symm hS.2.1]) (by simp [Ne.symm hS.2.2]) j.store, j.sok, j.tok, j.dPL, j.dPT, j.dPS, j.dLT, j.dLS, j.dTS, j.many, j.lets, j.und, j.cnt, j.minb, j.long, j.few⟩
/-- what stands of the others when some cells of one part change -/
theorem JL.pool_of (j : JL K C CS H A s) (f : FrS S H H') (h : ∀ c ∈ S, c ∈ A.sl ∨ c ∈ A.sT ∨ c ∈ A.sS) : IsPool H' A.p := pool_frS j.pool f fun m => by
  rcases h _ m with z | z | z
  · exact j.dPL z
  · exact j.dPT z
  · exact j.dPS z
theorem JL.law_of (j : JL K C CS H A s) (f : FrS S H H') (h : ∀ c ∈ S, c ∈ A.sT ∨ c ∈ A.sS) : LT H' A s := j.law.frS f fun c hc m => by
  rcases h _ m with z | z
  · exact j.dLT c hc z
  · exact j.dLS c hc z
theorem JL.nt (j : JL K C CS H A s) (h : ∀ c ∈ S, c = A.p ∨ c ∈ A.sl ∨ c ∈ A.sT ∨ c ∈ A.sS) : ∀ c ∈ S, NTup (H c) := fun c hc => by
  rcases h c hc with z | z | z | z
  · rw [z]; exact j.pool.nt
  · exact j.law.nt c z
  · exact j.tree.nt c z
  · exact storeV_nt j.store c z
theorem JL.tree_of (j : JL K C CS H A s) (f : FrS S H H') (h : ∀ c ∈ S, c ∈ A.sl ∨ c ∈ A.sS) : IsTree C A.X H' A.t A.st A.au A.ad s.d := by
  have k : ∀ c ∈ A.sT, c ∉ S := fun c hc m => by
    rcases h _ m with z | z
    · exact j.dLT c z hc
    · exact j.dTS c hc z
  exact j.tree.frS f (j.nt fun c hc => by
    rcases h c hc with z | z
    · exact .inr (.inl z)
    · exact .inr (.inr (.inr z))) (k _ (by simp)) (k _ (by simp)) (k _ (by simp)) fun c hc => by
    rcases h c hc with z | z
    · exact List.mem_cons_of_mem _ (List.mem_append.mpr (.inl z))
    · exact List.mem_cons_of_mem _ (List.mem_append.mpr (.inr z))
theorem JL.store_of (j : JL K C CS H A s) (f : FrS S H H') (h : ∀ c ∈ S, c ∈ A.sl ∨ c ∈ A.sT) : IsStoreV K CS H' A.st A.ac A.ak s.size s.cs s.kv := by
  have k : ∀ c ∈ A.sS, c ∉ S := fun c hc m => by
    rcases h _ m with z | z
    · exact j.dLS c z hc
    · exact j.dTS c z hc
  exact storeV_frS f (j.nt fun c hc => by
    rcases h c hc with z | z
    · exact .inr (.inl z)
    · exact .inr (.inr (.inl z))) (k _ (by simp)) (k _ (by simp)) (k _ (by simp)) j.store
theorem JL.allocd (j : JL K C CS H A s) : ∀ x ∈ A.X, ∃ o, H x = some o := fun x hx => by
  obtain ⟨kt, t1, _⟩ := j.law.tree
  obtain ⟨ku, U, u1, _⟩ := j.law.used
  obtain ⟨ns, p1, _⟩ := j.pool
  obtain ⟨dx, h1, h2, ⟨ks, g1, _⟩, _⟩ := j.store
  simp only [Adr.X, Adr.sl, Adr.sS, List.mem_cons, List.mem_append, List.not_mem_nil, or_false] at hx
  rcases hx with rfl | (rfl | rfl | rfl | rfl | rfl | rfl) | rfl | rfl | rfl
  · exact ⟨_, p1⟩
  · exact ⟨_, j.law.st⟩
  · exact ⟨_, t1⟩
  · exact ⟨_, u1⟩
  · exact ⟨_, j.law.hold⟩
  · obtain ⟨lc, c1, _⟩ := j.law.clock
    exact ⟨_, c1⟩
  · exact ⟨_, j.law.mine⟩
  · exact ⟨_, h1⟩
  · exact ⟨_, h2⟩
  · exact ⟨_, g1⟩
end

local macro_rules | `(tactic| walk_at "vv") => `(tactic| first
  | exact st_size
  | exact st_many
  | exact st_letters
  | exact st_tree
  | exact st_used
  | exact st_holders
  | exact st_clock
  | exact st_mine)

/-! ### the law's own tree: its steps -/
/-- tuples stay -/
def TupS (H H' : Hp) : Prop := ∀ a xs, H a = some (.tup xs) → H' a = some (.tup xs)
theorem TupS.same {H H' : Hp} (s : Same H H') : TupS H H' := fun a xs h => s _ _ h
theorem TupS.trans {H H' H'' : Hp} (s : TupS H H') (t : TupS H' H'') : TupS H H'' := fun a xs h => t _ _ (s _ _ h)
theorem TupS.frS {S : List Addr} {H H' : Hp} (f : FrS S H H') (n : ∀ c ∈ S, NTup (H c)) : TupS H H' := fun a xs h => f.at (tup_not n h) h
theorem TupS.fr {p : Addr} {H H' : Hp} (f : Fr p H H') (n : NTup (H p)) : TupS H H' := TupS.frS (S := [p]) (FrS.of f (by simp)) fun c hc => by rw [List.mem_singleton.mp hc]; exact n
/-- a def's promise, with the tuples that stand -/
theorem FnOk.tups {P : Program} {w : World} {K : PySem.W.Frag} {mg : Str → Option Value} {base : Heap} {CX : CXT} {k : Nat} {f : Addr} {fd : FuncData} {ps : List Str} {sp : Sp} (F : FnOk P w K mg base CX k f fd ps sp) : FnOk P w K mg base CX k f fd ps (fun vs H Q E => sp vs H (fun v H' => TupS H H' → Q v H') E) :=
  ⟨fun vs H Q E h => F.len vs H _ E h, fun A outer s H args us vs Q E hr he hb hv hs => codeAny_mono (F.run A outer s H args us vs _ E hr he hb hv hs) fun r s1 h => by
    cases r with
    | error e => exact h
    | ok fl =>
      cases fl with
      | ret u =>
        obtain ⟨v, H', h1, h2, h3, h4, h5, q⟩ := h
        exact ⟨v, H', h1, h2, h3, h4, h5, q h3.tups⟩
      | next => exact h
      | brk => exact h
      | cont => exact h⟩
/-- a row of the law, by the path and its number -/
def rowW (lets : Nat) (q : Path) (k : Nat) : List Int := (List.range lets).map fun (j : Nat) => 1 + ((natI q).sum * ((j : Int) + 3) + ((natI q).length : Int) * (k : Int) + (j : Int) * (k : Int)) % 7
def RowAt (H : Hp) (lets : Nat) (q : Path) (k : Nat) (v : V) : Prop := ∃ a e w, v = .ref a ∧ H a = some (.tup [.ref e, .ref w]) ∧ H e = some (.tup []) ∧ H w = some (.tup ((rowW lets q k).map V.int))
theorem RowAt.tups {H H' : Hp} {lets : Nat} {q : Path} {k : Nat} {v : V} (h : RowAt H lets q k v) (t : TupS H H') : RowAt H' lets q k v := by
  obtain ⟨a, e, w, h1, h2, h3, h4⟩ := h
  exact ⟨a, e, w, h1, t _ _ h2, t _ _ h3, t _ _ h4⟩
/-- the rows of the blocks under the paths -/
def RowsAt (H : Hp) (s : SD) : Prop := ∀ p b, s.d.under p = some b → ∃ vs, s.kv[b]? = some vs ∧ vs.length = s.size ∧ ∀ (k : Nat) v, vs[k]? = some v → RowAt H s.letters p k v
theorem RowsAt.put {H H' : Hp} {s s' : SD} {q : Path} {jj : Nat} {vs : List V} (h : RowsAt H s) (t : TupS H H') (hl : s'.letters = s.letters) (hs : s'.size = s.size) (hn : ∀ p, s.d.under p ≠ some jj)
    (hu : ∀ p b, s'.d.under p = some b → s.d.under p = some b ∨ (p = q ∧ b = jj ∧ s'.kv[jj]? = some vs)) (hk : ∀ b, b ≠ jj → s'.kv[b]? = s.kv[b]?) (hv : vs.length = s.size) (hr : ∀ (k : Nat) v, vs[k]? = some v → RowAt H' s.letters q k v) : RowsAt H' s' := fun p b e => by
  rw [hl, hs]
  rcases hu p b e with e | ⟨rfl, rfl, e⟩
  · have hb : b ≠ jj := fun z => hn p (by rw [← z]; exact e)
    obtain ⟨ws, h1, h2, h3⟩ := h p b e
    exact ⟨ws, (hk b hb).trans h1, h2, fun k v e => (h3 k v e).tups t⟩
  · exact ⟨vs, e, hv, hr⟩
theorem RowsAt.keep {H H' : Hp} {s s' : SD} (h : RowsAt H s) (t : TupS H H') (hl : s'.letters = s.letters) (hs : s'.size = s.size) (hu : ∀ p b, s'.d.under p = some b → s.d.under p = some b ∧ s'.kv[b]? = s.kv[b]?) : RowsAt H' s' := fun p b e => by
  rw [hl, hs]
  obtain ⟨e, hk⟩ := hu p b e
  obtain ⟨ws, h1, h2, h3⟩ := h p b e
  exact ⟨ws, hk.trans h1, h2, fun k v e => (h3 k v e).tups t⟩
def kInt (k : List Key) : List Int := k.map fun x : Key => match x with | .inl i => i | .inr _ => 0
theorem keyInt {k : List Key} {p : Path} (e : k = keyI p) : kInt k = natI p := by
  subst e
  unfold kInt keyI natI
  rw [List.map_map]
  exact List.map_congr_left fun x _ => rfl
theorem nodup_map_on {α β : Type} {f : α → β} : ∀ {l : List α}, (∀ a ∈ l, ∀ b ∈ l, f a = f b → a = b) → l.Nodup → (l.map f).Nodup
  | [], _, _ => List.nodup_nil
  | a :: l, h, n => by
    have n2 := List.nodup_cons.mp n
    rw [List.map_cons]
    refine List.nodup_cons.mpr ⟨fun m => ?_, nodup_map_on (fun x hx y hy => h x (List.mem_cons_of_mem _ hx) y (List.mem_cons_of_mem _ hy)) n2.2⟩
    obtain ⟨b, mb, e⟩ := List.mem_map.mp m
    rw [h b (List.mem_cons_of_mem _ mb) a List.mem_cons_self e] at mb
    exact n2.1 mb
/-- sorted(a dict of paths) -/
theorem w_sortedDict {H : Hp} {Q : VK} {a : Addr} {kt : List (List Key × V)} {f : Path → Option Nat} {ps : List Path} (h : H a = some (.dT kt)) (hd : DN kt f) (dom : ∀ p, (f p).isSome = true ↔ p ∈ ps) (asc : Asc ps) (nod : ps.Nodup) (hne : ∀ p ∈ ps, p ≠ [])
    (q : ∀ l H' ys, H l = none → Same H H' → H' l = some (.lst ys) → RA (RKey H') ys ps → Q (.ref l) H') : rSortedD [.ref a] H Q := by
  have hk : ∀ kv ∈ kt, ∃ p, kv.1 = keyI p ∧ p ∈ ps := fun kv m => by
    obtain ⟨p, e, hp⟩ := hd.key kv.1 (List.mem_map.mpr ⟨kv, m, rfl⟩)
    exact ⟨p, e, (dom p).mp hp⟩
  refine ⟨a, kt, kInt, rfl, h, fun kv m => ?_, fun ys l hp hs hy hl => ?_⟩
  · obtain ⟨p, e, hp⟩ := hk kv m
    rw [keyInt e, e, keyI_V]
    refine ⟨fun z => hne p hp ?_, rfl⟩
    cases p with
    | nil => rfl
    | cons a b => cases z
  · have hy2 : ∀ y ∈ ys, ∃ p, p ∈ ps ∧ y.1 = natI p := fun y m => by
      have m2 := hp.mem_iff.mp (List.mem_map.mpr ⟨y, m, rfl⟩)
      obtain ⟨kv, m3, e⟩ := List.mem_map.mp m2
      obtain ⟨p, e2, hp2⟩ := hk kv m3
      exact ⟨p, hp2, by rw [← e, keyInt e2]⟩
    have toN : ∀ p : Path, (natI p).map Int.toNat = p := fun p => by
      unfold natI
      rw [List.map_map]
      conv => rhs; rw [← List.map_id p]
      exact List.map_congr_left fun x _ => rfl
    have eq : (ys.map fun y => y.1.map Int.toNat) = ps := by
      have hperm : (ys.map fun y => y.1.map Int.toNat).Perm ps := by
        refine nodup_perm ?_ nod fun p => ⟨fun m => ?_, fun m => ?_⟩
        · have h2 := (hp.map fun z : List Int => z.map Int.toNat)
          rw [List.map_map, List.map_map] at h2
          refine (h2.nodup_iff).mpr ?_
          have e3 : (kt.map ((fun z : List Int => z.map Int.toNat) ∘ fun q => kInt q.1)) = (kt.map (·.1)).map (fun k => (kInt k).map Int.toNat) := by rw [List.map_map]; rfl
          rw [e3]
          refine nodup_map_on ?_ hd.nod
          intro k1 m1 k2 m2 e
          obtain ⟨p1, e1, _⟩ := hd.key k1 m1
          obtain ⟨p2, e2, _⟩ := hd.key k2 m2
          rw [keyInt e1, keyInt e2, toN, toN] at e
          rw [e1, e2, e]
        · obtain ⟨y, my, rfl⟩ := List.mem_map.mp m
          obtain ⟨p, hp2, e⟩ := hy2 y my
          rw [e, toN]; exact hp2
        · obtain ⟨n, hn⟩ := Option.isSome_iff_exists.mp ((dom p).mpr m)
          have hv := hd.val p
          rw [hn] at hv
          obtain ⟨kv, mk, ek⟩ : ∃ kv ∈ kt, kv.1 = keyI p := by
            unfold valV at hv
            cases e : kt.find? fun kv => decide (kv.1 = keyI p) with
            | none => rw [e] at hv; cases hv
            | some kv => exact ⟨kv, List.mem_of_find?_eq_some e, of_decide_eq_true (List.find?_some (p := fun kv : List Key × V => decide (kv.1 = keyI p)) e)⟩
          have m3 : natI p ∈ ys.map (·.1) := hp.mem_iff.mpr (List.mem_map.mpr ⟨kv, mk, keyInt ek⟩)
          obtain ⟨y, my, e⟩ := List.mem_map.mp m3
          exact List.mem_map.mpr ⟨y, my, by rw [e, toN]⟩
      refine asc_uniq ?_ asc hperm
      have h3 : SrtO.Srtd HT.lexLt (ys.map (·.1)) := SrtO.srtd_map hs
      refine List.pairwise_map.mpr ((List.pairwise_map.mp h3).imp_of_mem fun {y z} my mz hyz => ?_)
      obtain ⟨p, _, e1⟩ := hy2 y my
      obtain ⟨p2, _, e2⟩ := hy2 z mz
      show HT.lexLt (natI (z.1.map Int.toNat)) (natI (y.1.map Int.toNat)) = false
      rw [e1, e2, toN, toN, ← e1, ← e2]
      exact hyz
    have s := Same.new (o := .lst (ys.map fun y => V.ref y.2)) hl
    refine q l _ _ hl s upd_same ⟨by rw [← eq, List.length_map, List.length_map], fun i y p e1 e2 => ?_⟩
    rw [List.getElem?_map] at e1
    rw [← eq, List.getElem?_map] at e2
    cases ey : ys[i]? with
    | none => rw [ey] at e1; cases e1
    | some yy =>
      rw [ey] at e1 e2
      cases e1
      cases e2
      obtain ⟨p, _, e⟩ := hy2 yy (List.mem_of_getElem? ey)
      refine ⟨yy.2, rfl, s _ _ ?_⟩
      show H yy.2 = some (.tup ((natI (yy.1.map Int.toNat)).map V.int))
      rw [hy yy (List.mem_of_getElem? ey), e, toN]
theorem mem_begD {size : Nat} {d : TreeD} (h : TreeOk size d) {ls p : Path} : p ∈ begD size d.under ls ↔ (∃ j, (j + 1) * size ≤ ls.length ∧ p = ls.take ((j + 1) * size)) ∧ (d.under p).isSome = true := by
  refine ⟨fun m => ⟨(begD_mem m).2, (begD_mem m).1⟩, fun ⟨⟨j, hj, e⟩, hu⟩ => ?_⟩
  subst e
  have hp := (h.dom _).mp hu
  have hl : (ls.take ((j + 1) * size)).length = (j + 1) * size := by rw [List.length_take]; omega
  have hall := h.beg j hp hl
  have hjn : j < ls.length / size := by
    have := (Nat.le_div_iff_mul_le (show 0 < size from h.pos)).mpr hj
    omega
  unfold begD
  obtain ⟨r, hr⟩ : ∃ r, ls.length / size = (j + 1) + r := ⟨ls.length / size - (j + 1), by omega⟩
  rw [hr, List.range_add, List.map_append, List.takeWhile_append_of_pos fun p hp => ?_]
  · exact List.mem_append.mpr (.inl (List.mem_map.mpr ⟨j, List.mem_range.mpr (by omega), rfl⟩))
  · obtain ⟨i, hi, rfl⟩ := List.mem_map.mp hp
    have hi := List.mem_range.mp hi
    have := hall i (by omega)
    rw [take_take_le (Nat.mul_le_mul_right _ (by omega))] at this
    exact (h.dom _).mpr this
theorem use_mem {d : TreeD} {ps qs : List Path} (h : ∀ p, p ∈ ps ↔ p ∈ qs) : d.use ps = d.use qs := by
  unfold TreeD.use useF
  simp only [TreeD.mk.injEq, true_and, and_true]
  funext p
  by_cases e : p ∈ ps
  · rw [if_pos e, if_pos ((h p).mp e)]
  · rw [if_neg e, if_neg fun q => e ((h p).mpr q)]
theorem treeOk_ne {size : Nat} {d : TreeD} (h : TreeOk size d) : ∀ p ∈ d.paths, p ≠ [] := fun p m z => by
  obtain ⟨k, hk⟩ := h.shape p m
  have := h.pos
  rw [z] at hk
  simp only [List.length_nil] at hk
  have : 0 < (k + 1) * size := Nat.mul_pos (by omega) (by omega)
  omega
theorem dn_len_eq {kvs : List (List Key × V)} {f : Path → Option Nat} (h : DN kvs f) {ps : List Path} (dom : ∀ p, (f p).isSome = true ↔ p ∈ ps) (nod : ps.Nodup) : kvs.length = ps.length := by
  have h1 := h.len fun p hp => (dom p).mp hp
  have h2 := nodup_len (l := ps.map keyI) (m := kvs.map (·.1)) (nodup_map_on (fun a _ b _ e => keyI_inj e) nod) fun k hk => by
    obtain ⟨p, mp, rfl⟩ := List.mem_map.mp hk
    obtain ⟨n, hn⟩ := Option.isSome_iff_exists.mp ((dom p).mpr mp)
    have hv := h.val p
    rw [hn] at hv
    unfold valV at hv
    cases e : kvs.find? fun kv => decide (kv.1 = keyI p) with
    | none => rw [e] at hv; cases hv
    | some kv => exact List.mem_map.mpr ⟨kv, List.mem_of_find?_eq_some e, of_decide_eq_true (List.find?_some (p := fun kv : List Key × V => decide (kv.1 = keyI p)) e)⟩
  rw [List.length_map, List.length_map] at h2
  omega
def sp_L_pathX (K : PySem.W.Frag) (C CS : Addr) : Sp := fun vs H Q _ => ∃ (A : Adr) (s : SD), vs = [.ref A.p, .ref A.ls] ∧ JL K C CS H A s ∧ ∀ a H' (q : Path), JL K C CS H' A s → TupS H H' → H' a = some (.tup ((natI q).map V.int)) → q.length + 2 * s.size ≤ 53 → (∃ k, q.length = k * s.size) → (s.d.paths = [] → q = []) → Q (.ref a) H'
theorem ok_L_pathX (T : Txt K mg) : FnOk P w K mg base CX0 2 T.a_L_path T.d_L_path ["_law_pool_here", "_law_state"] (sp_L_pathX K T.c_Tree T.c_Store) := by
  refine T.F_L_path.ok sc_L_path (fun vs H Q E h => ?_) (fun cdv A outer s H vs Q E hr h => ?_)
  · obtain ⟨_, _, rfl, _⟩ := h
    rfl
  · obtain ⟨A, s, rfl, j, k⟩ := h
    have hs1 := j.sok.size
    have hst := j.law.st
    obtain ⟨kt, ht, hk⟩ := j.law.tree
    have hlen := dn_len_eq hk j.tok.dom j.tok.nod
    refine ⟨_, (pss_cons (ps_if (PW.pt (pw_and (pt_cmpR op_gt (pe_callB call_len_dT (by rfl) T.z_len (by decide +kernel) (pa_cons (pe_dget (u1 hr.units) (pv 1) pe_str (fun _ _ => rfl)) pa_nil)) pe_int (nomark _)) (pw_and1 (pt_cmpR op_gt (pe_call (ok_L_draw T) (hr.mono (by decide)) (by rfl) T.g_L_draw T.F_L_draw.kp T.b_L_draw .nil pass0 (pa_cons (pv 0) (pa_cons pe_int pa_nil))) pe_int (nomark _))))) (pss_cons (ps_set (i := 2) sc_L_path.nd rfl (Or.inl rfl) (pe_callB (cr_sortedD rfl) (by rfl) T.z_sorted (by decide +kernel) (pa_cons (pe_dget (u1 hr.units) (pv 1) pe_str (fun _ _ => rfl)) pa_nil)))
      (pss_cons (ps_set (i := 3) sc_L_path.nd rfl (Or.inl rfl) (pe_ix (k_ix (K := K) rfl) (pv 2) (pe_call (ok_L_draw T) (hr.mono (by decide)) (by rfl) T.g_L_draw T.F_L_draw.kp T.b_L_draw .nil pass0 (pa_cons (pv 0) (pa_cons (pe_callB (k_lenS (K := K) rfl) (by rfl) T.z_len (by decide +kernel) (pa_cons (pv 2) pa_nil)) pa_nil))) (fun _ _ => rfl)))
      (pss_cons (ps_set (i := 4) sc_L_path.nd rfl (Or.inl rfl) (pe_op op_fdiv (pe_op op_sub pe_int (pe_op op_mul pe_int (pe_dget (u1 hr.units) (pv 1) pe_str (fun _ _ => rfl)))) (pe_dget (u1 hr.units) (pv 1) pe_str (fun _ _ => rfl))))
      (pss_one (ps_ret (pe_slice (k_slG (K := K) rfl) (pv 3) po_none (po_some (pe_op op_mul (pe_dget (u1 hr.units) (pv 1) pe_str (fun _ _ => rfl)) (pe_callB (cr_min2 rfl) (by rfl) T.z_min (by decide +kernel) (pa_cons (pv 4) (pa_cons (pe_call (ok_L_draw T) (hr.mono (by decide)) (by rfl) T.g_L_draw T.F_L_draw.kp T.b_L_draw .nil pass0 (pa_cons (pv 0) (pa_cons pe_int pa_nil))) pa_nil))))))))))) pss_nil)
      (pss_one (ps_ret (pe_tup pa_nil)))), ?_⟩
    refine go_start (σ' := [some (.ref A.p), some (.ref A.ls), none, none, none]) rfl ?_
    try dsimp only [cxOf, Cx.nox, Cx.wish]
    walk_at "GO"
    refine ⟨A.tr, kt, rfl, ht, ?_⟩
    walk_at "GO"
    have nil : ∀ H1, JL K T.c_Tree T.c_Store H1 A s → TupS H H1 → ∀ a H2, H1 a = none → Same H1 H2 → H2 a = some (.tup []) → Q (.ref a) H2 := fun H1 j1 u1 a H2 ha s2 e2 => k a H2 [] (j1.same s2) (u1.trans (TupS.same s2)) e2 (by simp only [List.length_nil]; omega) ⟨0, by simp⟩ fun _ => rfl
    refine w_iteD (fun h0 => ?_) (fun h0 => ?_)
    · walk_at "GO"
      refine ⟨A.p, 3, rfl, j.pool, by omega, fun r H1 r0 r1 f1 hP1 => ?_⟩
      have j1 := j.draw f1 hP1
      have u1 := TupS.fr f1 j.pool.nt
      have hst1 := j1.law.st
      obtain ⟨kt1, ht1, hk1⟩ := j1.law.tree
      have hlen1 := dn_len_eq hk1 j.tok.dom j.tok.nod
      clear hst ht
      walk_at "GO"
      refine w_iteD (fun h1 => ?_) (fun h1 => ?_)
      · walk_at "GO"
        refine w_sortedDict ht1 hk1 j.tok.dom j.tok.asc j.tok.nod (treeOk_ne j.tok) fun l H2 ys hl s2 e2 r2 => ?_
        have j2 := j1.same s2
        have hlp := j1.pool.ne hl
        have hyl := r2.1
        have hSl : Sq true K H2 l ys := Sq.lst e2
        walk_at "GO"
        refine ⟨A.p, _, rfl, j2.pool, by omega, fun m H3 m0 m1 f3 hP3 => ?_⟩
        have j3 := j2.draw f3 hP3
        have hst3 := j3.law.st
        have e3 := f3 _ _ hlp e2
        have u3 := (u1.trans (TupS.same s2)).trans (TupS.fr f3 j2.pool.nt)
        obtain ⟨im, rfl, hm⟩ : ∃ im : Nat, m = (im : Int) ∧ im < ys.length := ⟨m.toNat, by omega, by omega⟩
        have hy : ys[im]? = some (ys[im]'hm) := List.getElem?_eq_getElem hm
        generalize ys[im]'hm = y at hy
        obtain ⟨p, hp⟩ : ∃ p, s.d.paths[im]? = some p := ⟨_, List.getElem?_eq_getElem (by omega)⟩
        obtain ⟨a, rfl, ha⟩ := r2.2 im y p hy hp
        have ha3 := (TupS.fr f3 j2.pool.nt) _ _ ha
        obtain ⟨kp, hkp⟩ := j.tok.shape p (List.mem_of_getElem? hp)
        clear hst1 ht1 hSl e2 ha s2
        walk_at "GO"
        refine w_ix (Sq.lst e3) (atI_nat hy) ?_
        clear e3
        have hcm : CMul 2 (s.size : Int) := by unfold CMul; omega
        have hcd : CDiv (53 - 2 * (s.size : Int)) (s.size : Int) := by unfold CDiv; omega
        walk_at "GO"
        refine ⟨A.p, 9, rfl, j3.pool, by omega, fun n H4 n0 n1 f4 hP4 => ?_⟩
        have j4 := j3.draw f4 hP4
        have ha4 := (TupS.fr f4 j3.pool.nt) _ _ ha3
        obtain ⟨mm, hmm, hmb⟩ : ∃ mm : Nat, (if n < (53 - 2 * (s.size : Int)) / (s.size : Int) then n else (53 - 2 * (s.size : Int)) / (s.size : Int)) = (mm : Int) ∧ mm * s.size + 2 * s.size ≤ 53 := by
          have hd0 : 0 ≤ (53 - 2 * (s.size : Int)) / (s.size : Int) := Int.ediv_nonneg (by omega) (by omega)
          have hd1 : (53 - 2 * (s.size : Int)) / (s.size : Int) * (s.size : Int) ≤ 53 - 2 * (s.size : Int) := Int.ediv_mul_le _ (by omega)
          generalize (53 - 2 * (s.size : Int)) / (s.size : Int) = q at hd0 hd1 ⊢
          have hle : (if n < q then n else q) ≤ q ∧ 0 ≤ (if n < q then n else q) := by split <;> omega
          generalize (if n < q then n else q) = z at hle ⊢
          refine ⟨z.toNat, by omega, ?_⟩
          have : ((z.toNat : Nat) : Int) * (s.size : Int) ≤ q * (s.size : Int) := Int.mul_le_mul_of_nonneg_right (by omega) (by omega)
          have h3 : ((z.toNat * s.size : Nat) : Int) = ((z.toNat : Nat) : Int) * (s.size : Int) := by push_cast; rfl
          omega
        walk_at "GO"
        rw [hmm]
        have ecut : cutV ((natI p).map V.int) none (some ((s.size : Int) * (mm : Int))) = (natI (p.take (mm * s.size))).map V.int := by
          have e : (s.size : Int) * (mm : Int) = ((mm * s.size : Nat) : Int) := by push_cast; exact Int.mul_comm _ _
          rw [e, cutV_to _ (by omega), Int.toNat_natCast]
          unfold natI
          rw [← List.map_take]
        refine w_slTq (b := false) (ys := (natI (p.take (mm * s.size))).map V.int) (show Tq false K H4 a _ from ha4) ecut fun a' H5 s5 h5 => ?_
        have hml : (p.take (mm * s.size)).length ≤ mm * s.size := by rw [List.length_take]; omega
        refine k a' H5 (p.take (mm * s.size)) (j4.same s5) ((u3.trans (TupS.fr f4 j3.pool.nt)).trans (TupS.same s5)) h5 (by omega) ?_ fun z => by rw [z] at hp; simp at hp
        rw [List.length_take]
        by_cases hc : mm ≤ kp + 1
        · exact ⟨mm, by rw [hkp]; exact Nat.min_eq_left (Nat.mul_le_mul_right _ hc)⟩
        · exact ⟨kp + 1, by rw [hkp]; exact Nat.min_eq_right (Nat.mul_le_mul_right _ (by omega))⟩
      · walk_at "GO"
        rename_i a H2 ha s2 e2
        exact nil H1 j1 u1 a H2 ha s2 e2
    · walk_at "GO"
      rename_i a H2 ha s2 e2
      exact nil H j (fun _ _ h => h) a H2 ha s2 e2
def sp_L_path (K : PySem.W.Frag) (C CS : Addr) : Sp := fun vs H Q _ => ∃ (A : Adr) (s : SD), vs = [.ref A.p, .ref A.ls] ∧ JL K C CS H A s ∧ ∀ a H' (q : Path), JL K C CS H' A s → TupS H H' → H' a = some (.tup ((natI q).map V.int)) → q.length + 2 * s.size ≤ 53 → (∃ k, q.length = k * s.size) → Q (.ref a) H'
theorem ok_L_path (T : Txt K mg) : FnOk P w K mg base CX0 2 T.a_L_path T.d_L_path ["_law_pool_here", "_law_state"] (sp_L_path K T.c_Tree T.c_Store) :=
  (ok_L_pathX T).imp fun vs H Q E ⟨A, s, h, j, k⟩ => ⟨A, s, h, j, fun a H' q h1 h2 h3 h4 h5 _ => k a H' q h1 h2 h3 h4 h5⟩
def sp_L_letters (K : PySem.W.Frag) (C CS : Addr) : Sp := fun vs H Q _ => ∃ (A : Adr) (s : SD) (n : Int), vs = [.ref A.p, .ref A.ls, .int n] ∧ JL K C CS H A s ∧ n ≤ 1000 ∧ -1000 ≤ n ∧ ∀ a H' (q : Path), JL K C CS H' A s → TupS H H' → H' a = some (.tup ((natI q).map V.int)) → q.length = n.toNat → (∀ l ∈ q, l < s.letters) → Q (.ref a) H'
theorem ok_L_letters (T : Txt K mg) : FnOk P w K mg base CX0 2 T.a_L_letters T.d_L_letters ["_law_pool_here", "_law_state", "_law_many"] (sp_L_letters K T.c_Tree T.c_Store) := by
  refine T.F_L_letters.ok sc_L_letters (fun vs H Q E h => ?_) (fun cdv A outer s H vs Q E hr h => ?_)
  · obtain ⟨_, _, _, rfl, _⟩ := h
    rfl
  · obtain ⟨A, s, n, rfl, j, hn1, hn2, k⟩ := h
    have hlt := j.lets
    refine ⟨_, (pss_one (ps_ret (pe_callTy (k_tupS (K := K) rfl) (by rfl) T.z_tuple (by decide +kernel) (pa_cons (pe_lc (own := [("_law_k", 3)]) (g := gName 3) (tt := tYes) rfl sc_L_letters.nd (pi_range1 rfl T.z_range (pa_cons (pv 2) pa_nil)) (blkOk_by (own := [("_law_k", 3)]) (by kernel_rfl)) (fun _ _ _ _ _ => (pg_name (i := 3) sc_L_letters.nd rfl (by first | exact Or.inl rfl | exact Or.inr rfl))) (fun _ _ _ _ _ => pts_nil) (fun _ _ _ _ _ => (pe_call (ok_L_draw T) (hr.mono (by decide)) (by rfl) T.g_L_draw T.F_L_draw.kp T.b_L_draw .nil pass0 (pa_cons (pv 0) (pa_cons (pe_dget (u1 hr.units) (pv 1) pe_str (fun _ _ => rfl)) pa_nil))))) pa_nil)))), ?_⟩
    refine go_start (σ' := [some (.ref A.p), some (.ref A.ls), some (.int n), none]) rfl ?_
    try dsimp only [cxOf, Cx.nox, Cx.wish]
    walk_at "GO"
    refine c_poolR (R := RInt) (fun z => 0 ≤ z ∧ z < (s.letters : Int)) RInt.mono RInt.tup j.pool (by omega) (by omega) (fun _ => rfl) (fun m H1 N hm f hP hN => ?_) (fun D1 H2 ys bs hD1 f2 hP2 e2 hyl hbl hyr hbP => ?_)
    · have hst := (j.draw f hP).law.st
      walk_at "GO"
      exact ⟨A.p, (s.letters : Int), rfl, hP, by omega, fun z H2 z0 z1 f2 hP2 => hN _ _ _ f2 hP2 rfl ⟨z0, z1⟩⟩
    obtain rfl : ys = bs.map V.int := vec_of (by omega) fun i y h => by
      have hi := (List.getElem?_eq_some_iff.mp h).1
      have hd : bs[i]? = some (bs[i]'(by omega)) := List.getElem?_eq_getElem (by omega)
      have h3 : y = .int _ := hyr i y _ h hd
      rw [h3, nth_nat, List.getD_eq_getElem?_getD, hd]
      rfl
    have j2 := j.draw f2 hP2
    walk_at "GO"
    rename_i a H3 ha s3 e3
    have eb : natI (bs.map Int.toNat) = bs := by
      unfold natI
      rw [List.map_map]
      conv => rhs; rw [← List.map_id bs]
      exact List.map_congr_left fun x hx => Int.toNat_of_nonneg (hbP x hx).1
    refine k a H3 (bs.map Int.toNat) (j2.same s3) ((TupS.fr f2 j.pool.nt).trans (TupS.same s3)) (by rw [eb]; exact e3) (by rw [List.length_map]; exact hbl) fun l hl => ?_
    obtain ⟨x, hx, rfl⟩ := List.mem_map.mp hl
    have := hbP x hx
    omega
def sp_L_release : Sp := fun vs H Q _ => ∃ (A : Adr) (s : SD) (b : Nat), vs = [.ref A.ls, .int (b : Int)] ∧ LT H A s ∧ b < s.cs.length ∧ ∀ H', FrS [A.ho] H H' → LT H' A { s with cs := s.cs.set b (nth s.cs ((b : Nat) : Int) - 1) } → Q .non H'
theorem ok_L_release (T : Txt K mg) : FnOk P w K mg base CX0 1 T.a_L_release T.d_L_release ["_law_state", "_law_block"] sp_L_release := by
  refine T.F_L_release.ok sc_L_release (fun vs H Q E h => ?_) (fun cdv A outer s H vs Q E hr h => ?_)
  · obtain ⟨_, _, _, rfl, _⟩ := h
    rfl
  · obtain ⟨A, s, b, rfl, hL, hb, k⟩ := h
    have hst := hL.st
    have hho := hL.hold
    refine ⟨_, (pss_cons (ps_set (i := 2) sc_L_release.nd rfl (Or.inl rfl) (pe_dget (u1 hr.units) (pv 0) pe_str (fun _ _ => rfl)))
      (pss_one (ps_asg (pe_op op_sub (pe_ix (k_ix (K := K) rfl) (pv 2) (pv 1) (fun _ _ => rfl)) pe_int) (pg_sub (pv 2) (pv 1) set_list)))), ?_⟩
    refine go_start (σ' := [some (.ref A.ls), some (.int (b : Int)), none]) rfl ?_
    try dsimp only [cxOf, Cx.nox, Cx.wish]
    walk_at "GO"
    refine w_setI hho (by omega) (by omega) ?_
    walk_at "GO"
    rw [Int.toNat_natCast]
    have hn : A.ls ≠ A.ho ∧ A.tr ≠ A.ho ∧ A.us ≠ A.ho := by
      obtain ⟨kt, t1, _⟩ := hL.tree
      obtain ⟨ku, U, u1, _⟩ := hL.used
      exact ⟨fun z => (by rw [z, hho] at hst; cases hst), fun z => (by rw [z, hho] at t1; cases t1), fun z => (by rw [z, hho] at u1; cases u1)⟩
    obtain ⟨kt, t1, t2⟩ := hL.tree
    obtain ⟨ku, U, u1, u2, u3, u4⟩ := hL.used
    obtain ⟨lc, c1, c2⟩ := hL.clock
    exact k _ ((FrS.same (Same.refl _)).upd _ (by simp)) ⟨(upd_ne hn.1).trans hst, ⟨kt, (upd_ne hn.2.1).trans t1, t2⟩, ⟨ku, U, (upd_ne hn.2.2).trans u1, u2, u3, u4⟩, upd_same, ⟨lc, (upd_ne (Ne.symm hL.n2)).trans c1, c2⟩, (upd_ne (Ne.symm hL.n3)).trans hL.mine, hL.n1, hL.n2, hL.n3, hL.n4⟩
def sp_L_uses : Sp := fun vs H Q _ => ∃ (A : Adr) (s : SD) (a : Addr) (q : Path), vs = [.ref A.ls, .ref a] ∧ LT H A s ∧ (∃ d2, TreeOk s.size d2 ∧ d2.under = s.d.under) ∧ s.size ≤ 8 ∧ H a = some (.tup ((natI q).map V.int)) ∧ q.length ≤ 1000 ∧ s.N ≤ 100000 ∧ ∀ H', FrS [A.us, A.cl] H H' → LT H' A { s with d := s.d.use (begD s.size s.d.under q), N := s.N + q.length } → Q .non H'
theorem ok_L_uses (T : Txt K mg) : FnOk P w K mg base CX0 1 T.a_L_uses T.d_L_uses ["_law_state", "_law_path_here"] sp_L_uses := by
  refine T.F_L_uses.ok sc_L_uses (fun vs H Q E h => ?_) (fun cdv A outer s H vs Q E hr h => ?_)
  · obtain ⟨_, _, _, _, rfl, _⟩ := h
    rfl
  · obtain ⟨A, s, a, q, rfl, hL, ⟨d2, ok, hdu⟩, hs8, ha, hq, hN, k⟩ := h
    have hst := hL.st
    obtain ⟨lc, hcl, hlc⟩ := hL.clock
    have hs := ok.pos
    obtain ⟨kt, t1, t2⟩ := hL.tree
    obtain ⟨ku, U, v1, v2, v3, v4⟩ := hL.used
    have hql := natI_len q
    refine ⟨_, (pss_cons (ps_set (i := 2) sc_L_uses.nd rfl (Or.inl rfl) (pe_dget (u1 hr.units) (pv 0) pe_str (fun _ _ => rfl)))
      (pss_cons (ps_set (i := 3) sc_L_uses.nd rfl (Or.inl rfl) (pe_dget (u1 hr.units) (pv 0) pe_str (fun _ _ => rfl)))
      (pss_cons (ps_asg (pe_op (k_addG (K := K) rfl) (pe_ix (k_ix (K := K) rfl) (pv 3) pe_int (fun _ _ => rfl)) pe_int) (pg_sub (pv 3) pe_int set_list))
      (pss_one (ps_for PassesOwn.never rfl (pi_range3 rfl T.z_range (pa_cons (pe_dget (u1 hr.units) (pv 0) pe_str (fun _ _ => rfl)) (pa_cons (pe_op (k_addG (K := K) rfl) (pe_callB (k_lenS (K := K) rfl) (by rfl) T.z_len (by decide +kernel) (pa_cons (pv 1) pa_nil)) pe_int) (pa_cons (pe_dget (u1 hr.units) (pv 0) pe_str (fun _ _ => rfl)) pa_nil)))) (pg_name (i := 4) sc_L_uses.nd rfl (Or.inl rfl))
      (pss_one (ps_if (pt_cmp (pc_din (u1 hr.units) (pe_slice (k_slG (K := K) rfl) (pv 1) po_none (po_some (pv 4))) (pe_dget (u1 hr.units) (pv 0) pe_str (fun _ _ => rfl))) rfl) (pss_one (ps_dput (u1 hr.units) (pv 2) (pe_slice (k_slG (K := K) rfl) (pv 1) po_none (po_some (pv 4))) (pe_ix (k_ix (K := K) rfl) (pv 3) pe_int (fun _ _ => rfl)) rfl)) pss_nil))))))), ?_⟩
    refine go_start (σ' := [some (.ref A.ls), some (.ref a), none, none, none]) rfl ?_
    try dsimp only [cxOf, Cx.nox, Cx.wish]
    walk_at "GO"
    refine w_setI hcl (by omega) (by show (0 : Int) < (1 : Int); omega) ?_
    have hlsc : A.ls ≠ A.cl := fun z => by rw [z, hcl] at hst; cases hst
    have hac : a ≠ A.cl := fun z => by rw [z, hcl] at ha; cases ha
    have htc : A.tr ≠ A.cl := fun z => by rw [z, hcl] at t1; cases t1
    have huc : A.us ≠ A.cl := fun z => by rw [z, hcl] at v1; cases v1
    have htu := hL.n1
    have hlsu : A.ls ≠ A.us := fun z => by rw [z, v1] at hst; cases hst
    have hau : a ≠ A.us := fun z => by rw [z, v1] at ha; cases ha
    have e0 : ([((lc : Nat) : Int)] : List Int).set (0 : Int).toNat (nth [((lc : Nat) : Int)] 0 + 1) = [((lc + 1 : Nat) : Int)] := rfl
    rw [e0]
    have F1 : FrS [A.us, A.cl] H (upd H A.cl (.lst (([((lc + 1 : Nat) : Int)] : List Int).map V.int))) := (FrS.same (Same.refl _)).upd _ (by simp)
    have st1 := (upd_ne (o := .lst (([((lc + 1 : Nat) : Int)] : List Int).map V.int)) hlsc).trans hst
    have a1 := (upd_ne (o := .lst (([((lc + 1 : Nat) : Int)] : List Int).map V.int)) hac).trans ha
    have c1 : upd H A.cl (.lst (([((lc + 1 : Nat) : Int)] : List Int).map V.int)) A.cl = some (.lst (([((lc + 1 : Nat) : Int)] : List Int).map V.int)) := upd_same
    have w1 := (upd_ne (o := .lst (([((lc + 1 : Nat) : Int)] : List Int).map V.int)) huc).trans v1
    generalize upd H A.cl (.lst (([((lc + 1 : Nat) : Int)] : List Int).map V.int)) = H1 at F1 st1 a1 c1 w1 ⊢
    have hSa : Sq false K H1 a ((natI q).map V.int) := Sq.tup a1
    walk_at "GO"
    refine w_iRng3 ?_
    walk_at "GO"
    rw [hql]
    refine l_range3 hs (by omega) (by omega) (fun i σ H' => ∃ (y4 : Option V) (ku' : List (List Key × V)), σ = [some (.ref A.ls), some (.ref a), some (.ref A.us), some (.ref A.cl), y4] ∧ FrS [A.us, A.cl] H H' ∧ H' A.cl = some (.lst (([((lc + 1 : Nat) : Int)] : List Int).map V.int)) ∧ H' A.us = some (.dT ku') ∧ ku'.length ≤ s.N + i ∧ DN ku' (useF U (((List.range i).map fun j => q.take ((j + 1) * s.size)).filter fun p => (s.d.under p).isSome) (lc + 1)))
      ⟨none, ku, rfl, F1, c1, w1, v4, v2.congr fun p => by unfold useF; rw [if_neg (by simp)]⟩ ?_ ?_
    · clear F1 st1 a1 c1 w1 hSa
      rintro i σ H2 hi ⟨y4, ku', rfl, F2, c2, w2, wl2, wd2⟩
      have st2 := F2.at (by simp [hlsc, hlsu]) hst
      have a2 := F2.at (by simp [hac, hau]) ha
      have t2' := F2.at (by simp [htc, htu]) t1
      have hcut : cutV ((natI q).map V.int) none (some (((i + 1) * s.size : Nat) : Int)) = (natI (q.take ((i + 1) * s.size))).map V.int := by
        rw [cutV_upto (by rw [List.length_map, natI_len]; exact hi)]
        unfold natI
        rw [← List.map_take, ← List.map_take]
      have fl : (((List.range (i + 1)).map fun j => q.take ((j + 1) * s.size)).filter fun p => (s.d.under p).isSome) = (((List.range i).map fun j => q.take ((j + 1) * s.size)).filter fun p => (s.d.under p).isSome) ++ (if (s.d.under (q.take ((i + 1) * s.size))).isSome = true then [q.take ((i + 1) * s.size)] else []) := by
        rw [List.range_succ, List.map_append, List.filter_append]
        congr 1
        simp only [List.map_cons, List.map_nil, List.filter_cons, List.filter_nil]
      walk_at "GO"
      refine w_din ?_
      walk_at "GO"
      refine w_slTq (b := false) (ys := (natI (q.take ((i + 1) * s.size))).map V.int) (show Tq false K H2 a _ from a2) hcut fun p1 H3 s3 h3 => ?_
      have h3 : H3 p1 = some (.tup ((natI (q.take ((i + 1) * s.size))).map V.int)) := h3
      rw [← keyI_V] at h3
      have st3 := s3 _ _ st2
      walk_at "GO"
      refine ⟨A.tr, _, rfl, DGet.t (s3 _ _ t2') h3, ?_⟩
      rw [t2.val]
      have c3 := s3 _ _ c2
      have w3 := s3 _ _ w2
      have a3 := s3 _ _ a2
      have F3 := F2.trans (FrS.same s3)
      clear st2 a2 t2' c2 w2 F2 s3
      cases hu : s.d.under (q.take ((i + 1) * s.size)) with
      | none =>
        rw [show (Option.map natV none).isSome = false from rfl]
        walk_at "GO"
        refine ⟨_, ku', rfl, F3, c3, w3, by omega, ?_⟩
        rw [fl, hu, if_neg (by decide), List.append_nil]
        exact wd2
      | some n =>
        rw [show (Option.map natV (some n)).isSome = true from rfl]
        walk_at "GO"
        refine w_slTq (b := false) (ys := (natI (q.take ((i + 1) * s.size))).map V.int) (show Tq false K H3 a _ from a3) hcut fun p2 H4 s4 h4 => ?_
        have h4 : H4 p2 = some (.tup ((natI (q.take ((i + 1) * s.size))).map V.int)) := h4
        rw [← keyI_V] at h4
        have hi1 : i < 1000 := by have := Nat.le_mul_of_pos_right (i + 1) (show 0 < s.size by omega); omega
        refine ⟨A.us, _, rfl, DPut.t (s4 _ _ w3) h4 (by rw [sizeLine_eq]; omega), ?_⟩
        walk_at "GO"
        rw [show nth [((lc + 1 : Nat) : Int)] 0 = ((lc + 1 : Nat) : Int) from rfl]
        refine ⟨_, _, rfl, (F3.trans (FrS.same s4)).upd _ (by simp), (upd_ne (Ne.symm huc)).trans (s4 _ _ c3), upd_same, by have := length_putK ku' (keyI (q.take ((i + 1) * s.size))) (.int ((lc + 1 : Nat) : Int)); omega, (wd2.put (q.take ((i + 1) * s.size)) (lc + 1)).congr fun p => ?_⟩
        rw [fl, hu]
        simp only [Option.isSome_some, if_true]
        unfold useF
        by_cases e : p = q.take ((i + 1) * s.size)
        · rw [if_pos e, if_pos (List.mem_append.mpr (.inr (by rw [e]; exact List.mem_singleton.mpr rfl)))]
        · rw [if_neg e]
          by_cases m : p ∈ ((List.range i).map fun j => q.take ((j + 1) * s.size)).filter fun p => (s.d.under p).isSome
          · rw [if_pos m, if_pos (List.mem_append.mpr (.inl m))]
          · rw [if_neg m, if_neg fun h => (List.mem_append.mp h).elim m fun h => e (List.mem_singleton.mp h)]
    · clear F1 st1 a1 c1 w1 hSa
      rintro σ H2 ⟨y4, ku', rfl, F2, c2, w2, wl2, wd2⟩
      walk_at "GO"
      have hho := hL.hold
      have hmi := hL.mine
      have nho : A.ho ≠ A.us := fun z => by rw [z, v1] at hho; cases hho
      have nmi : A.mi ≠ A.us := fun z => by rw [z, v1] at hmi; cases hmi
      have hmem : ∀ p, p ∈ (((List.range (q.length / s.size)).map fun j => q.take ((j + 1) * s.size)).filter fun p => (s.d.under p).isSome) ↔ p ∈ begD s.size s.d.under q := fun p => by
        rw [← hdu, mem_begD ok, hdu, List.mem_filter]
        refine and_congr ⟨fun m => ?_, fun ⟨j, hj, e⟩ => ?_⟩ Iff.rfl
        · obtain ⟨j, hj, e⟩ := List.mem_map.mp m
          exact ⟨j, (Nat.le_div_iff_mul_le (by omega)).mp (List.mem_range.mp hj), e.symm⟩
        · exact List.mem_map.mpr ⟨j, List.mem_range.mpr ((Nat.le_div_iff_mul_le (by omega)).mpr hj), e.symm⟩
      refine k H2 F2 ⟨F2.at (by simp [hlsc, hlsu]) hst, ⟨kt, F2.at (by simp [htc, htu]) t1, t2⟩, ⟨ku', _, w2, wd2, fun p c hp => ?_, by have := Nat.div_le_self q.length s.size; show ku'.length ≤ s.N + q.length; omega⟩, F2.at (by simp [nho, hL.n2]) hho, ⟨lc + 1, c2, by show lc + 1 + s.off = s.d.clock + 1; omega⟩, F2.at (by simp [nmi, Ne.symm hL.n4]) hmi, hL.n1, hL.n2, hL.n3, hL.n4⟩
      have hp : useF s.d.used (begD s.size s.d.under q) (s.d.clock + 1) p = some c := hp
      show ∃ c', useF U _ (lc + 1) p = some c' ∧ c' + s.off = c
      unfold useF at hp ⊢
      by_cases e : p ∈ begD s.size s.d.under q
      · rw [if_pos e] at hp
        cases hp
        rw [if_pos ((hmem p).mpr e)]
        exact ⟨lc + 1, rfl, by omega⟩
      · rw [if_neg e] at hp
        rw [if_neg fun h => e ((hmem p).mp h)]
        exact v3 p c hp

/-! ### the law's own tree: made, filled, shown -/
theorem cmul_of {i j : Int} (h1 : 0 ≤ i ∧ i ≤ 100000) (h2 : 0 ≤ j ∧ j ≤ 1000) : CMul i j := by
  unfold CMul
  omega
theorem LT.wk {H : Hp} {A : Adr} {s : SD} {n : Nat} (h : LT H A s) (hn : s.N ≤ n) : LT H A { s with N := n } := by
  obtain ⟨ku, U, u1, u2, u3, u4⟩ := h.used
  exact ⟨h.st, h.tree, ⟨ku, U, u1, u2, u3, by show ku.length ≤ n; omega⟩, h.hold, h.clock, h.mine, h.n1, h.n2, h.n3, h.n4⟩
theorem begD_takes {size : Nat} {u : Path → Option Nat} {q : Path} {i : Nat} (hs : 1 ≤ size) (hi : i * size ≤ q.length) (h : ∀ j, j < i → (u (q.take ((j + 1) * size))).isSome = true) : begD size u (q.take (i * size)) = (List.range i).map fun j => q.take ((j + 1) * size) := by
  have hl : (q.take (i * size)).length = i * size := by rw [List.length_take]; omega
  have e : ∀ j, j < i → (q.take (i * size)).take ((j + 1) * size) = q.take ((j + 1) * size) := fun j hj => take_take_le (Nat.mul_le_mul_right _ (by omega))
  rw [begD_stop hs (j := i) (by omega) (fun j hj => by rw [e j hj]; exact h j hj) (.inl (by rw [hl, Nat.add_mul]; omega))]
  exact List.map_congr_left fun j hj => e j (List.mem_range.mp hj)
theorem free_count (cs : List Int) : cs.count 0 = freeOf cs := by
  unfold freeOf
  rw [List.count_eq_length_filter]
  congr 1
def sp_L_new : Sp := fun vs H Q _ => ∃ (p : Addr) (size : Nat), vs = [.ref p, .int (size : Int)] ∧ IsPool H p ∧ ∀ (H' : Hp) (ls tr us ho cl mi : Addr) (many letters : Nat), Fr p H H' → IsPool H' p → 1 ≤ many → many ≤ 20 → 1 ≤ letters → letters ≤ 12 → H' ls = some (.dK (StF size many letters tr us ho cl mi)) → H' tr = some (.dT []) → H' us = some (.dT []) → H' ho = some (.lst []) → H' cl = some (.lst [.int 0]) → H' mi = some (.lst []) → (∀ c ∈ [ls, tr, us, ho, cl, mi], H c = none) → tr ≠ us → ho ≠ cl → ho ≠ mi → cl ≠ mi → Q (.ref ls) H'
theorem ok_L_new (T : Txt K mg) : FnOk P w K mg base CX0 2 T.a_L_new T.d_L_new ["_law_pool_here", "_law_size"] sp_L_new := by
  refine T.F_L_new.ok sc_L_new (fun vs H Q E h => ?_) (fun cdv A outer s H vs Q E hr h => ?_)
  · obtain ⟨_, _, rfl, _⟩ := h
    rfl
  · obtain ⟨p, size, rfl, hp, k⟩ := h
    refine ⟨_, (pss_cons (ps_set (i := 2) sc_L_new.nd rfl (Or.inl rfl) (pe_ix (k_ix (K := K) rfl) (pe_lst (pa_cons (pe_op (k_addG (K := K) rfl) pe_int (pe_call (ok_L_draw T) (hr.mono (by decide)) (by rfl) T.g_L_draw T.F_L_draw.kp T.b_L_draw .nil pass0 (pa_cons (pv 0) (pa_cons pe_int pa_nil)))) (pa_cons pe_int pa_nil))) (pe_callTy cr_int1 (by rfl) T.z_int (by decide +kernel) (pa_cons (pe_cmpR (k_eqG (K := K) rfl hr.units) (pe_call (ok_L_draw T) (hr.mono (by decide)) (by rfl) T.g_L_draw T.F_L_draw.kp T.b_L_draw .nil pass0 (pa_cons (pv 0) (pa_cons pe_int pa_nil))) pe_int (nomark _)) pa_nil)) (fun _ _ => rfl)))
      (pss_one (ps_ret (pe_disp (pps_cons pe_str (pv 1) (pps_cons pe_str (pv 2) (pps_cons pe_str (pe_ix (k_ix (K := K) rfl) (pe_lst (pa_cons pe_int (pa_cons pe_int (pa_cons pe_int (pa_cons pe_int (pa_cons pe_int (pa_cons pe_int pa_nil))))))) (pe_call (ok_L_draw T) (hr.mono (by decide)) (by rfl) T.g_L_draw T.F_L_draw.kp T.b_L_draw .nil pass0 (pa_cons (pv 0) (pa_cons pe_int pa_nil))) (fun _ _ => rfl)) (pps_cons pe_str pe_dnewT (pps_cons pe_str pe_dnewT (pps_cons pe_str (pe_lst pa_nil) (pps_cons pe_str (pe_lst (pa_cons pe_int pa_nil)) (pps_cons pe_str (pe_lst pa_nil) pps_nil)))))))) rfl rfl (by simp) (by decide))))), ?_⟩
    refine go_start (σ' := [some (.ref p), some (.int (size : Int)), none]) rfl ?_
    try dsimp only [cxOf, Cx.nox, Cx.wish]
    walk_at "GO"
    refine ⟨p, 12, rfl, hp, by omega, fun r H1 r0 r1 f1 hP1 => ?_⟩
    walk_at "GO"
    rename_i l1 H2 hl1 s2 e2
    have hP2 := hP1.same s2
    refine ⟨p, 8, rfl, hP2, by omega, fun r2 H3 r20 r21 f3 hP3 => ?_⟩
    have e3 := f3 _ _ (hP1.ne hl1) e2
    walk_at "GO"
    obtain ⟨z, hz, hz0, hz1⟩ : ∃ z : Int, (if decide (r2 = 0) = true then (1 : Int) else 0) = z ∧ 0 ≤ z ∧ z < 2 := ⟨_, rfl, by split <;> omega, by split <;> omega⟩
    rw [hz]
    refine w_ixI (b := true) (ns := [1 + r, 20]) (Sq.lst e3) hz0 (by show z < (2 : Int); omega) ?_
    obtain ⟨many, hmany, hm0, hm1⟩ : ∃ many : Nat, nth [1 + r, 20] z = (many : Int) ∧ 1 ≤ many ∧ many ≤ 20 := by
      have hm := nth_mem (ns := [1 + r, 20]) hz0 (by show z < (2 : Int); omega)
      simp only [List.mem_cons, List.not_mem_nil, or_false] at hm
      exact ⟨(nth [1 + r, 20] z).toNat, by omega, by omega, by omega⟩
    rw [hmany]
    clear hz hz0 hz1 hmany e3 e2
    walk_at "GO"
    intro D hD
    have hDp := hP3.ne hD
    have fD : Fr p H (upd H3 D (.dK [])) := (f1.trans ((Fr.same s2).trans f3)).trans (Fr.same (Same.new hD))
    have hPD : IsPool (upd H3 D (.dK [])) p := hP3.same (Same.new hD)
    have eD : upd H3 D (.dK []) D = some (.dK []) := upd_same
    have hDH : H D = none := fr_none ((f1.trans (Fr.same s2)).trans f3) hDp hD
    clear hD f1 s2 f3 hp hP1 hP2 hP3 hl1
    generalize upd H3 D (.dK []) = H4 at fD hPD eD ⊢
    walk_at "GO"
    rename_i l2 H5 hl2 s5 e5
    have hP5 := hPD.same s5
    have hlp2 := hPD.ne hl2
    have eD5 := s5 _ _ eD
    refine ⟨p, 6, rfl, hP5, by omega, fun r5 H6 r50 r51 f6 hP6 => ?_⟩
    have e6 := f6 _ _ hlp2 e5
    have eD6 := f6 _ _ hDp eD5
    refine w_ixI (b := true) (ns := [1, 2, 2, 3, 3, 12]) (Sq.lst e6) r50 (by show r5 < (6 : Int); omega) ?_
    obtain ⟨letters, hlet, hlt0, hlt1⟩ : ∃ letters : Nat, nth [1, 2, 2, 3, 3, 12] r5 = (letters : Int) ∧ 1 ≤ letters ∧ letters ≤ 12 := by
      have hm := nth_mem (ns := [1, 2, 2, 3, 3, 12]) r50 (by show r5 < (6 : Int); omega)
      simp only [List.mem_cons, List.not_mem_nil, or_false] at hm
      exact ⟨(nth [1, 2, 2, 3, 3, 12] r5).toNat, by omega, by omega, by omega⟩
    rw [hlet]
    have F6 : Fr p H H6 := (fD.trans (Fr.same s5)).trans f6
    clear fD s5 f6 hPD hP5 eD eD5 e5 e6 r50 r51 hlet hl2 hlp2
    walk_at "GO"
    refine w_dnew fun tr htr => ?_
    have s7 := Same.new (o := .dT []) htr
    have e7 : upd H6 tr (.dT []) tr = some (.dT []) := upd_same
    have htrp := hP6.ne htr
    have htrH := fr_none F6 htrp htr
    generalize upd H6 tr (.dT []) = H7 at s7 e7 ⊢
    walk_at "GO"
    refine w_dnew fun us hus => ?_
    have s8 := Same.new (o := .dT []) hus
    have e8 : upd H7 us (.dT []) us = some (.dT []) := upd_same
    have husp := (hP6.same s7).ne hus
    have husH := fr_none F6 husp (none_back s7 hus)
    generalize upd H7 us (.dT []) = H8 at s8 e8 ⊢
    have s78 := s7.trans s8
    walk_at "GO"
    rename_i ho H9 hho s9 e9 cl H10 hcl s10 e10 mi H11 hmi s11 e11
    have s8b := s8.trans (s9.trans (s10.trans s11))
    have s7b := s7.trans s8b
    have trH : H11 tr = some (.dT []) := s8b _ _ e7
    have usH : H11 us = some (.dT []) := s11 _ _ (s10 _ _ (s9 _ _ e8))
    have hoH : H11 ho = some (.lst []) := s11 _ _ (s10 _ _ e9)
    have clH : H11 cl = some (.lst [.int 0]) := s11 _ _ e10
    have DH : H11 D = some (.dK []) := s7b _ _ eD6
    have P11 : IsPool H11 p := hP6.same s7b
    have F11 : Fr p H H11 := F6.trans (Fr.same s7b)
    have nn : ∀ {c : Addr} {G : Hp}, Same H6 G → G c = none → H c = none := fun {c G} sg hc => fr_none F6 (fun z => by
      obtain ⟨ns, q1, _⟩ := hP6
      rw [z, sg _ _ q1] at hc
      cases hc) (none_back sg hc)
    have hoN := nn s78 hho
    have clN := nn (s78.trans s9) hcl
    have miN := nn (s78.trans (s9.trans s10)) hmi
    refine ⟨DH, StF size many letters tr us ho cl mi, rfl, by show 8 ≤ 15; omega, ?_⟩
    rw [show mergeK [] (StF size many letters tr us ho cl mi) = StF size many letters tr us ho cl mi from by kernel_rfl]
    have neD : ∀ {c : Addr} {o : HO}, H11 c = some o → o ≠ .dK [] → c ≠ D := fun {c o} h n z => n (by rw [z, DH] at h; exact (Option.some.inj h).symm)
    refine k _ D tr us ho cl mi many letters (F11.mut hDH) (P11.upd hDp) hm0 hm1 hlt0 hlt1 upd_same ((upd_ne (neD trH (by intro z; cases z))).trans trH) ((upd_ne (neD usH (by intro z; cases z))).trans usH) ((upd_ne (neD hoH (by intro z; cases z))).trans hoH) ((upd_ne (neD clH (by intro z; cases z))).trans clH) ((upd_ne (neD e11 (by intro z; cases z))).trans e11) ?_ (ne_of_none e7 hus) (ne_of_none e9 hcl) (ne_of_none (s10 _ _ e9) hmi) (ne_of_none e10 hmi)
    intro c hc
    simp only [List.mem_cons, List.not_mem_nil, or_false] at hc
    rcases hc with rfl | rfl | rfl | rfl | rfl | rfl
    · exact hDH
    · exact htrH
    · exact husH
    · exact hoN
    · exact clN
    · exact miN
def sp_L_row (K : PySem.W.Frag) : Sp := fun vs H Q _ => ∃ (A : Adr) (s : SD) (a : Addr) (q : Path) (n : Nat), vs = [.ref A.ls, .ref a, .int (n : Int)] ∧ LT H A s ∧ s.letters ≤ 12 ∧ H a = some (.tup ((natI q).map V.int)) ∧ q.length ≤ 1000 ∧ n ≤ 8 ∧ ∀ b H', Same H H' → RowAt H' s.letters q n (.ref b) → Q (.ref b) H'
theorem ok_L_row (T : Txt K mg) : FnOk P w K mg base CX0 1 T.a_L_row T.d_L_row ["_law_state", "_law_letters_here", "_law_k"] (sp_L_row K) := by
  refine T.F_L_row.ok sc_L_row (fun vs H Q E h => ?_) (fun cdv A outer s H vs Q E hr h => ?_)
  · obtain ⟨_, _, _, _, _, rfl, _⟩ := h
    rfl
  · obtain ⟨A, s, a, q, n, rfl, hL, hlt, ha, hq, hn, k⟩ := h
    have hst := hL.st
    refine ⟨_, (pss_cons (ps_setLc (i := 3) (own := [("_law_j", 4)]) (g := gName 4) (tt := tYes) rfl sc_L_row.nd rfl rfl (sw_true rfl rfl rfl (by decide +kernel)) (pi_range1 rfl T.z_range (pa_cons (pe_dget (u1 hr.units) (pv 0) pe_str (fun _ _ => rfl)) pa_nil)) (blkOk_by (own := [("_law_j", 4)]) (by kernel_rfl)) (fun _ _ _ _ _ => (pg_name (i := 4) sc_L_row.nd rfl (by first | exact Or.inl rfl | exact Or.inr rfl))) (fun _ _ _ _ _ => pts_nil) (fun _ _ _ _ _ => (pe_op (k_addG (K := K) rfl) pe_int (pe_op op_mod (pe_callTy cr_int1 (by rfl) T.z_int (by decide +kernel) (pa_cons (pe_op (k_addG (K := K) rfl) (pe_op (k_addG (K := K) rfl) (pe_op op_mul (pe_callB (k_sumS (K := K) rfl rfl) (by rfl) T.z_sum (by decide +kernel) (pa_cons (pv 1) pa_nil)) (pe_op (k_addG (K := K) rfl) (pv 4) pe_int)) (pe_op op_mul (pe_callB (k_lenS (K := K) rfl) (by rfl) T.z_len (by decide +kernel) (pa_cons (pv 1) pa_nil)) (pv 2))) (pe_op op_mul (pv 4) (pv 2))) pa_nil)) pe_int))))
      (pss_one (ps_ret (pe_tup (pa_cons (pe_tup pa_nil) (pa_cons (pe_callTy (k_tupS (K := K) rfl) (by rfl) T.z_tuple (by decide +kernel) (pa_cons (pv 3) pa_nil)) pa_nil)))))), ?_⟩
    refine go_start (σ' := [some (.ref A.ls), some (.ref a), some (.int (n : Int)), none, none]) rfl ?_
    try dsimp only [cxOf, Cx.nox, Cx.wish]
    walk_at "GO"
    have hql := natI_len q
    have hSa : Sq false K H a ((natI q).map V.int) := Sq.tup ha
    refine c_intsR (by omega) (by omega) (rowW s.letters q n) (by unfold rowW; rw [List.length_map, List.length_range]; omega) (fun _ => rfl) (fun i H1 N hi sm hN => ?_) (fun D H1 hD sm e => ?_)
    · have hc1 : CMul (natI q).sum ((i : Int) + 3) := .inr ⟨by omega, by omega⟩
      have hc2 : CMul ((natI q).length : Int) (n : Int) := cmul_of (by omega) (by omega)
      have hc3 : CMul (i : Int) (n : Int) := cmul_of (by omega) (by omega)
      have a1 := sm _ _ ha
      have hSa1 : Sq false K H1 a ((natI q).map V.int) := Sq.tup a1
      have hN := hN _ (Same.refl _)
      have hnr : nth (rowW s.letters q n) (i : Int) = 1 + ((natI q).sum * ((i : Int) + 3) + ((natI q).length : Int) * (n : Int) + (i : Int) * (n : Int)) % 7 := by
        unfold rowW
        rw [nth_nat, List.getD_eq_getElem?_getD, List.getElem?_map, List.getElem?_range (by omega)]
        rfl
      rw [hnr] at hN
      walk_at "GO"
      exact hN
    · walk_at "GO"
      rename_i p1 Ha hp1 sa ea p2 Hb hp2 sb eb p3 Hc hp3 sc ec
      exact k _ _ (((sm.trans sa).trans sb).trans sc) ⟨p3, p1, p2, rfl, ec, sc _ _ (sb _ _ ea), sc _ _ eb⟩

def sp_L_known (K : PySem.W.Frag) : Sp := fun vs H Q _ => ∃ (A : Adr) (s : SD) (a : Addr) (q : Path), vs = [.ref A.ls, .ref a] ∧ LT H A s ∧ TreeOk s.size s.d ∧ s.size ≤ 8 ∧ H a = some (.tup ((natI q).map V.int)) ∧ q.length ≤ 1000 ∧ s.N ≤ 100000 ∧ ∀ v H', FrS [A.us, A.cl] H H' → LT H' A { s with d := s.d.use (begD s.size s.d.under q), N := s.N + q.length } → RVec false K H' v ((begD s.size s.d.under q).map fun p => (((s.d.under p).getD 0 : Nat) : Int)) → Q v H'
theorem ok_L_known (T : Txt K mg) : FnOk P w K mg base CX0 2 T.a_L_known T.d_L_known ["_law_state", "_law_letters_here"] (sp_L_known K) := by
  refine T.F_L_known.ok sc_L_known (fun vs H Q E h => ?_) (fun cdv A outer s H vs Q E hr h => ?_)
  · obtain ⟨_, _, _, _, rfl, _⟩ := h
    rfl
  · obtain ⟨A, s, a, q, rfl, hL, ok, hs8, ha, hq, hN, k⟩ := h
    have hst := hL.st
    have hs := ok.pos
    obtain ⟨kt, t1, t2⟩ := hL.tree
    have hql := natI_len q
    have hSa : Sq false K H a ((natI q).map V.int) := Sq.tup ha
    refine ⟨_, (pss_cons (ps_set (i := 2) sc_L_known.nd rfl (Or.inl rfl) (pe_lst pa_nil))
      (pss_cons (ps_set (i := 3) sc_L_known.nd rfl (Or.inl rfl) (pe_tup pa_nil))
      (pss_cons (ps_for PassesOwn.never rfl (pi_range3 rfl T.z_range (pa_cons (pe_dget (u1 hr.units) (pv 0) pe_str (fun _ _ => rfl)) (pa_cons (pe_op (k_addG (K := K) rfl) (pe_callB (k_lenS (K := K) rfl) (by rfl) T.z_len (by decide +kernel) (pa_cons (pv 1) pa_nil)) pe_int) (pa_cons (pe_dget (u1 hr.units) (pv 0) pe_str (fun _ _ => rfl)) pa_nil)))) (pg_name (i := 4) sc_L_known.nd rfl (Or.inl rfl))
      (pss_cons (ps_if (pt_cmp (pc_dnotin (u1 hr.units) (pe_slice (k_slG (K := K) rfl) (pv 1) po_none (po_some (pv 4))) (pe_dget (u1 hr.units) (pv 0) pe_str (fun _ _ => rfl))) rfl) (pss_one ps_break) pss_nil)
      (pss_cons (ps_set (i := 3) sc_L_known.nd rfl (Or.inl rfl) (pe_slice (k_slG (K := K) rfl) (pv 1) po_none (po_some (pv 4))))
      (pss_one (ps_expr (k_bm (K := K) rfl PySem.F.plainAttrs_list PySem.F.slot_list_append PySem.F.type_list_append mt_append (pv 2) (pa_cons (pe_dget (u1 hr.units) (pe_dget (u1 hr.units) (pv 0) pe_str (fun _ _ => rfl)) (pv 3) (fun _ _ => rfl)) pa_nil)))))))
      (pss_cons (ps_expr (pe_call (ok_L_uses T) (hr.mono (by decide)) (by rfl) T.g_L_uses T.F_L_uses.kp T.b_L_uses .nil pass0 (pa_cons (pv 0) (pa_cons (pv 3) pa_nil))))
      (pss_one (ps_ret (pe_callTy (k_tupS (K := K) rfl) (by rfl) T.z_tuple (by decide +kernel) (pa_cons (pv 2) pa_nil)))))))), ?_⟩
    refine go_start (σ' := [some (.ref A.ls), some (.ref a), none, none, none]) rfl ?_
    try dsimp only [cxOf, Cx.nox, Cx.wish]
    walk_at "GO"
    rename_i D H1 hD s1 e1 b0 H2 hb0 s2 e2
    have s12 := s1.trans s2
    have D2 := s2 _ _ e1
    have a2 := s12 _ _ ha
    have st2 := s12 _ _ hst
    have hSa2 : Sq false K H2 a ((natI q).map V.int) := Sq.tup a2
    have hDa : D ≠ a := fun z => by rw [z, ha] at hD; cases hD
    have hDs : D ≠ A.ls := fun z => by rw [z, hst] at hD; cases hD
    have hDt : D ≠ A.tr := fun z => by rw [z, t1] at hD; cases hD
    refine w_iRng3 ?_
    clear hSa s1 s2 e1
    walk_at "GO"
    rw [hql]
    have fin : ∀ (i : Nat) (b : Addr) (y4 : Option V) (pvs : List Int) H3, i * s.size ≤ q.length → (∀ j, j < i → (s.d.under (q.take ((j + 1) * s.size))).isSome = true) → (q.length < (i + 1) * s.size ∨ s.d.under (q.take ((i + 1) * s.size)) = none) → Same H H3 → H3 D = some (.lst (pvs.map V.int)) → pvs = ((List.range i).map fun j => (((s.d.under (q.take ((j + 1) * s.size))).getD 0 : Nat) : Int)) → H3 b = some (.tup ((natI (q.take (i * s.size))).map V.int)) → ∀ (hN : True), True := fun _ _ _ _ _ _ _ _ _ _ _ _ _ => trivial
    clear fin
    refine l_range3 hs (by omega) (by omega) (fun i σ H' => ∃ (b : Addr) (y4 : Option V), σ = [some (.ref A.ls), some (.ref a), some (.ref D), some (.ref b), y4] ∧ i * s.size ≤ q.length ∧ (∀ j, j < i → (s.d.under (q.take ((j + 1) * s.size))).isSome = true) ∧ Same H H' ∧ H' D = some (.lst (((List.range i).map fun j => (((s.d.under (q.take ((j + 1) * s.size))).getD 0 : Nat) : Int)).map V.int)) ∧ H' b = some (.tup ((natI (q.take (i * s.size))).map V.int)))
      ⟨b0, none, rfl, by omega, fun j h => absurd h (Nat.not_lt_zero j), s12, D2, by rw [Nat.zero_mul]; exact e2⟩ ?_ ?_
    · clear D2 a2 st2 hSa2 e2 s12
      rintro i σ H3 hi ⟨b, y4, rfl, hi0, hju, s3, D3, b3⟩
      have st3 := s3 _ _ hst
      have a3 := s3 _ _ ha
      have t3 := s3 _ _ t1
      have hcut : cutV ((natI q).map V.int) none (some (((i + 1) * s.size : Nat) : Int)) = (natI (q.take ((i + 1) * s.size))).map V.int := by
        rw [cutV_upto (by rw [List.length_map, natI_len]; exact hi)]
        unfold natI
        rw [← List.map_take, ← List.map_take]
      walk_at "GO"
      refine w_dnotin ?_
      walk_at "GO"
      refine w_slTq (b := false) (ys := (natI (q.take ((i + 1) * s.size))).map V.int) (show Tq false K H3 a _ from a3) hcut fun p1 H4 s4 h4 => ?_
      have h4 : H4 p1 = some (.tup ((natI (q.take ((i + 1) * s.size))).map V.int)) := h4
      rw [← keyI_V] at h4
      have st4 := s4 _ _ st3
      walk_at "GO"
      refine ⟨A.tr, _, rfl, DGet.t (s4 _ _ t3) h4, ?_⟩
      rw [t2.val]
      have D4 := s4 _ _ D3
      have a4 := s4 _ _ a3
      have t4 := s4 _ _ t3
      have b4 := s4 _ _ b3
      have s34 := s3.trans s4
      clear st3 a3 t3 D3 b3 s3 s4
      cases hu : s.d.under (q.take ((i + 1) * s.size)) with
      | none =>
        rw [show (Option.map natV none).isSome = false from rfl]
        walk_at "GO"
        have hdm : i * s.size ≤ q.length := by have := Nat.mul_le_mul_right s.size (Nat.le_succ i); omega
        have ql2 : (q.take (i * s.size)).length ≤ q.length := by rw [List.length_take]; omega
        refine ⟨A, s, b, _, rfl, hL.same s34, ⟨s.d, ok, rfl⟩, hs8, b4, by omega, hN, fun H5 f5 hL5 => ?_⟩
        have hDc : D ≠ A.us ∧ D ≠ A.cl := by
          obtain ⟨ku, U, v1, _⟩ := hL.used
          exact ⟨fun z => (by rw [z, v1] at hD; cases hD), fun z => (by obtain ⟨lc, c1, _⟩ := hL.clock; rw [z, c1] at hD; cases hD)⟩
        have D5 := f5.at (b := D) (by simp [hDc.1, hDc.2]) D4
        rw [begD_takes hs hdm hju] at hL5
        have ebeg : begD s.size s.d.under q = (List.range i).map fun j => q.take ((j + 1) * s.size) := begD_stop hs hdm hju (.inr hu)
        clear D4 st4 a4 t4 b4 h4 hcut
        walk_at "GO"
        rename_i t6 H6 ht6 s6 e6
        refine k _ H6 (((FrS.same s34).trans f5).trans (FrS.same s6)) ?_ ⟨t6, rfl, ?_⟩
        · rw [ebeg]
          exact (hL5.same s6).wk (n := s.N + q.length) (by show s.N + _ ≤ _; omega)
        · rw [ebeg, List.map_map, List.map_map]
          rw [List.map_map] at e6
          exact Sq.tup e6
      | some n =>
        rw [show (Option.map natV (some n)).isSome = true from rfl]
        walk_at "GO"
        refine w_slTq (b := false) (ys := (natI (q.take ((i + 1) * s.size))).map V.int) (show Tq false K H4 a _ from a4) hcut fun p2 H5 s5 h5 => ?_
        have h5 : H5 p2 = some (.tup ((natI (q.take ((i + 1) * s.size))).map V.int)) := h5
        have st5 := s5 _ _ st4
        have D5 := s5 _ _ D4
        have t5 := s5 _ _ t4
        have s35 := s34.trans s5
        clear D4 st4 a4 t4 b4 hcut
        walk_at "GO"
        have h5k := h5
        rw [← keyI_V] at h5k
        have hg := DGet.t t5 h5k
        rw [t2.val, hu] at hg
        refine ⟨A.tr, .int (n : Int), rfl, hg, ?_⟩
        clear hg h5k h4
        have hDp2 : p2 ≠ D := fun z => by rw [z, D5] at h5; cases h5
        have e0 : (((List.range i).map fun j => (((s.d.under (q.take ((j + 1) * s.size))).getD 0 : Nat) : Int)).map V.int) ++ [V.int (n : Int)] = ((List.range (i + 1)).map fun j => (((s.d.under (q.take ((j + 1) * s.size))).getD 0 : Nat) : Int)).map V.int := by
          rw [List.range_succ, List.map_append, List.map_append]
          simp only [List.map_cons, List.map_nil, hu, Option.getD_some]
        have hi1 : i < 1000 := by have := Nat.le_mul_of_pos_right (i + 1) (show 0 < s.size by omega); omega
        walk_at "GO"
        refine w_append D5 (line_of (by rw [List.length_map, List.length_map, List.length_range]; omega)) ?_
        walk_at "GO"
        refine ⟨p2, _, rfl, hi, fun j hj => ?_, Same.mut s35 hD, by rw [upd_same, e0], (upd_ne hDp2).trans h5⟩
        by_cases e : j = i
        · rw [e, hu]; rfl
        · exact hju j (by omega)
    · clear D2 a2 st2 hSa2 e2 s12
      rintro σ H3 ⟨b, y4, rfl, hi0, hju, s3, D3, b3⟩
      walk_at "GO"
      have hdm : q.length / s.size * s.size ≤ q.length := Nat.div_mul_le_self _ _
      have ql2 : (q.take (q.length / s.size * s.size)).length ≤ q.length := by rw [List.length_take]; omega
      refine ⟨A, s, b, _, rfl, hL.same s3, ⟨s.d, ok, rfl⟩, hs8, b3, by omega, hN, fun H4 f4 hL4 => ?_⟩
      have hDc : D ≠ A.us ∧ D ≠ A.cl := by
        obtain ⟨ku, U, v1, _⟩ := hL.used
        exact ⟨fun z => (by rw [z, v1] at hD; cases hD), fun z => (by obtain ⟨lc, c1, _⟩ := hL.clock; rw [z, c1] at hD; cases hD)⟩
      have D4 := f4.at (b := D) (by simp [hDc.1, hDc.2]) D3
      rw [begD_takes hs hdm hju] at hL4
      have ebeg : begD s.size s.d.under q = (List.range (q.length / s.size)).map fun j => q.take ((j + 1) * s.size) := begD_stop hs hdm hju (.inl (Nat.lt_mul_of_div_lt (Nat.lt_succ_self _) (by omega)))
      walk_at "GO"
      rename_i t4 H5 ht4 s5 e5
      refine k _ H5 (((FrS.same s3).trans f4).trans (FrS.same s5)) ?_ ⟨t4, rfl, ?_⟩
      · rw [ebeg]
        exact (hL4.same s5).wk (n := s.N + q.length) (by show s.N + _ ≤ _; omega)
      · rw [ebeg, List.map_map, List.map_map]
        rw [List.map_map] at e5
        exact Sq.tup e5

def sp_L_filled (K : PySem.W.Frag) (CS : Addr) : Sp := fun vs H Q _ => ∃ (A : Adr) (s : SD) (a : Addr) (q : Path), vs = [.ref A.st, .ref A.ls, .ref a] ∧ LT H A s ∧ IsStoreV K CS H A.st A.ac A.ak s.size s.cs s.kv ∧ SOk s.size s.cs s.kv ∧ (∀ c ∈ A.sl, c ∉ A.sS) ∧ s.letters ≤ 12 ∧ H a = some (.tup ((natI q).map V.int)) ∧ q.length ≤ 1000 ∧ (0 : Int) ∈ s.cs ∧ ∀ (j : Nat) (ws : List V) H', firstZ s.cs = some j → FrS [A.ho, A.ac, A.ak] H H' → LT H' A { s with cs := s.cs.set j 1 } → IsStoreV K CS H' A.st A.ac A.ak s.size (s.cs.set j 1) (s.kv.set j ws) → SOk s.size (s.cs.set j 1) (s.kv.set j ws) → ws.length = s.size → (∀ (k : Nat) v, ws[k]? = some v → RowAt H' s.letters q k v) → Q (.int (j : Int)) H'
theorem ok_L_filled (T : Txt K mg) : FnOk P w K mg base CX0 8 T.a_L_filled T.d_L_filled ["_law_store", "_law_state", "_law_letters_here"] (sp_L_filled K T.c_Store) := by
  refine T.F_L_filled.ok sc_L_filled (fun vs H Q E h => ?_) (fun cdv A outer s H vs Q E hr h => ?_)
  · obtain ⟨_, _, _, _, rfl, _⟩ := h
    rfl
  · obtain ⟨A, s, a, q, rfl, hL, hI, sok, dLS, hlt, ha, hq, h0, k⟩ := h
    have hst := hL.st
    have hho := hL.hold
    obtain ⟨dx, g0, _⟩ := id hI
    unfold StoreF at g0
    have cS := T.C_Store
    refine ⟨_, (pss_cons (ps_set (i := 3) sc_L_filled.nd rfl (Or.inl rfl) (pe_dget (u1 hr.units) (pv 1) pe_str (fun _ _ => rfl)))
      (pss_cons (ps_set (i := 4) sc_L_filled.nd rfl (Or.inl rfl) (pe_meth0 (pv 0) T.C_Store T.m_Store_take (ok_Store_take T) (hr.mono (by decide)) T.b_Store_take .nil pass0))
      (pss_cons (ps_set (i := 5) sc_L_filled.nd rfl (Or.inl rfl) (k_bm (K := K) rfl PySem.F.plainAttrs_list PySem.F.slot_list_index PySem.F.type_list_index (k_index (K := K) rfl) (pv 3) (pa_cons pe_int pa_nil)))
      (pss_cons (ps_asg pe_int (pg_sub (pv 3) (pv 5) set_list))
      (pss_cons (ps_if (pt_not (k_tru (K := K) rfl (pe_call (ok_L_same_at T 6) (hr.mono (by decide)) (by rfl) T.g_L_same T.F_L_same.kp T.b_L_same .nil pass0 (pa_cons (pv 4) (pa_cons (pv 5) pa_nil))) (by intro _; rfl))) (pss_one (ps_ret (pe_un un_neg pe_int))) pss_nil)
      (pss_cons (ps_for PassesOwn.never rfl (pi_range1 rfl T.z_range (pa_cons (pe_dget (u1 hr.units) (pv 1) pe_str (fun _ _ => rfl)) pa_nil)) (pg_name (i := 6) sc_L_filled.nd rfl (Or.inl rfl))
      (pss_one (ps_expr (pe_meth (pv 0) T.C_Store T.m_Store_put_row (ok_Store_put_row T) (hr.mono (by decide)) T.b_Store_put_row .nil pass0 (pa_cons (pv 5) (pa_cons (pe_call (ok_L_row T) (hr.mono (by decide)) (by rfl) T.g_L_row T.F_L_row.kp T.b_L_row .nil pass0 (pa_cons (pv 1) (pa_cons (pv 2) (pa_cons (pv 6) pa_nil)))) pa_nil))))))
      (pss_one (ps_ret (pv 5))))))))), ?_⟩
    refine go_start (σ' := [some (.ref A.st), some (.ref A.ls), some (.ref a), none, none, none, none]) rfl ?_
    try dsimp only [cxOf, Cx.nox, Cx.wish]
    walk_at "GO"
    refine ⟨A.st, A.ac, A.ak, s.size, s.cs, s.kv, rfl, hI, sok, fun j hj H1 f1 hI1 => ?_, fun hn => ?_⟩
    · obtain ⟨hj1, hj2, hj3⟩ := firstZ_some hj
      have F1 : FrS [A.ho, A.ac, A.ak] H H1 := FrS.of2 f1 (by simp) (by simp)
      have hac : ∀ c ∈ A.sl, c ≠ A.ac ∧ c ≠ A.ak := fun c hc => by
        have := dLS c hc
        simp only [Adr.sS, List.mem_cons, List.not_mem_nil, or_false, not_or] at this
        exact this.2
      have n1 := hac A.ls (by simp)
      have n2 := hac A.ho (by simp)
      have hL1 : LT H1 A s := hL.frS (S := [A.ac, A.ak]) (FrS.of2 f1 (by simp) (by simp)) fun c hc m => by
        simp only [List.mem_cons, List.not_mem_nil, or_false] at m
        exact m.elim (hac c hc).1 (hac c hc).2
      have hst1 := hL1.st
      have hho1 := hL1.hold
      walk_at "GO"
      refine w_indexI (Sq.lst hho1) hj1 hj2 hj3 ?_
      walk_at "GO"
      refine w_setI hho1 (by omega) (by omega) ?_
      rw [Int.toNat_natCast]
      have hL2 : LT (upd H1 A.ho (.lst ((s.cs.set j 1).map V.int))) A { s with cs := s.cs.set j 1 } := by
        obtain ⟨kt, t1, t2⟩ := hL1.tree
        obtain ⟨ku, U, v1, v2, v3, v4⟩ := hL1.used
        obtain ⟨lc, c1, c2⟩ := hL1.clock
        exact ⟨(upd_ne (fun z => by rw [z, hho1] at hst1; cases hst1)).trans hst1, ⟨kt, (upd_ne (fun z => by rw [z, hho1] at t1; cases t1)).trans t1, t2⟩, ⟨ku, U, (upd_ne (fun z => by rw [z, hho1] at v1; cases v1)).trans v1, v2, v3, v4⟩, upd_same, ⟨lc, (upd_ne (Ne.symm hL.n2)).trans c1, c2⟩, (upd_ne (Ne.symm hL.n3)).trans hL1.mine, hL.n1, hL.n2, hL.n3, hL.n4⟩
      have hI2 := storeV_updL (o := .lst ((s.cs.set j 1).map V.int)) hho1 n2.1 n2.2 hI1
      have F2 := F1.upd (.lst ((s.cs.set j 1).map V.int)) (by simp : A.ho ∈ [A.ho, A.ac, A.ak])
      have hnt : ∀ c ∈ [A.ho, A.ac, A.ak], NTup (H c) := fun c hc => by
        simp only [List.mem_cons, List.not_mem_nil, or_false] at hc
        rcases hc with rfl | rfl | rfl
        · exact hL.nt _ (by simp)
        · exact storeV_nt hI _ (by simp)
        · exact storeV_nt hI _ (by simp)
      have hst2 : upd H1 A.ho (.lst ((s.cs.set j 1).map V.int)) A.ls = some (.dK (StF s.size s.many s.letters A.tr A.us A.ho A.cl A.mi)) := hL2.st
      have ok1 : SOk s.size (s.cs.set j 1) s.kv := sok.take hj
      have hkl := sok.len
      have hsz := sok.size
      generalize upd H1 A.ho (.lst ((s.cs.set j 1).map V.int)) = H2 at hL2 hI2 F2 hst2 ⊢
      clear hL1 hst1 hho1 hI1 F1 f1 g0
      walk_at "GO"
      refine ⟨_, _, rfl, SmB.int, ?_⟩
      walk_at "GO"
      have hh : heldD (s.cs.set j 1) (some (j : Int)) = some j := heldD_of (by rw [List.length_set]; exact hj1) (by rw [nthS hj1, if_pos rfl]; omega)
      have h1 : nth (s.cs.set j 1) ((j : Nat) : Int) = 1 := by rw [nthS hj1, if_pos rfl]
      have hset0 : s.kv.set j [] = s.kv := by
        have he := sok.empty j hj2
        have hjk : j < s.kv.length := by omega
        rw [List.getD_eq_getElem?_getD, List.getElem?_eq_getElem hjk] at he
        have he : s.kv[j] = [] := he
        rw [← he]
        exact List.set_getElem_self hjk
      refine l_range (fun i σ H' => ∃ (y6 : Option V) (ws : List V), σ = [some (.ref A.st), some (.ref A.ls), some (.ref a), some (.ref A.ho), some (.int (j : Int)), some (.int (j : Int)), y6] ∧ FrS [A.ho, A.ac, A.ak] H H' ∧ LT H' A { s with cs := s.cs.set j 1 } ∧ IsStoreV K T.c_Store H' A.st A.ac A.ak s.size (s.cs.set j 1) (s.kv.set j ws) ∧ SOk s.size (s.cs.set j 1) (s.kv.set j ws) ∧ ws.length = i ∧ (∀ (k : Nat) v, ws[k]? = some v → RowAt H' s.letters q k v)) (by omega) (by omega) ⟨none, [], rfl, F2, hL2, by rw [hset0]; exact hI2, by rw [hset0]; exact ok1, rfl, fun k v e => by simp at e⟩ ?_ ?_
      · clear hL2 hI2 F2 hst2
        rintro i σ H3 hi ⟨y6, ws, rfl, F3, hL3, hI3, ok3, hlw, hrw⟩
        have hgd : (s.kv.set j ws).getD j [] = ws := by rw [getDS (by omega), if_pos rfl]
        have hl3 : ((s.kv.set j ws).getD j []).length = i := by rw [hgd]; exact hlw
        have hss : ∀ zs, (s.kv.set j ws).set j zs = s.kv.set j zs := fun zs => List.set_set ..
        generalize hkv : s.kv.set j ws = kv at hI3 ok3 hl3 hgd hss
        have a3 := F3.at (tup_not hnt ha) ha
        obtain ⟨dx3, g3, _⟩ := id hI3
        unfold StoreF at g3
        have hst3 : H3 A.ls = some (.dK (StF s.size s.many s.letters A.tr A.us A.ho A.cl A.mi)) := hL3.st
        have hi : i < s.size := by omega
        walk_at "GO"
        refine ⟨A, { s with cs := s.cs.set j 1 }, a, q, i, rfl, hL3, hlt, a3, hq, by omega, fun b H4 s4 r4 => ?_⟩
        walk_at "GO"
        have hI4 := storeV_same s4 hI3
        refine ⟨A.st, A.ac, A.ak, s.size, .int (j : Int), .ref b, some (j : Int), _, kv, rfl, hI4, ok3, rfl, fun b' hb' hle hne H5 f5 hI5 => ?_, fun z => ?_, fun b' hb' hlt' => ?_, fun b' hb' hle hfull => ?_⟩
        · rw [hh] at hb'
          cases hb'
          walk_at "GO"
          have F5 : FrS [A.ac, A.ak] H3 H5 := (FrS.same s4).trans (FrS.of2 f5 (by simp) (by simp))
          have nt4 : ∀ c ∈ [A.ac, A.ak], NTup (H4 c) := fun c hc => storeV_nt hI4 c (List.mem_cons_of_mem _ hc)
          have t45 : TupS H4 H5 := TupS.frS (FrS.of2 f5 (by simp) (by simp)) nt4
          have hI6 : IsStoreV K T.c_Store H5 A.st A.ac A.ak s.size (s.cs.set j 1) (s.kv.set j (ws ++ [.ref b])) := by
            rw [hgd, hss] at hI5
            exact hI5
          have ok6 : SOk s.size (s.cs.set j 1) (s.kv.set j (ws ++ [.ref b])) := by
            rw [← hss]
            refine ok3.kept (by rw [List.length_set]; exact hj1) (by rw [h1]; decide) ?_
            rw [List.length_append]
            show ((ws.length + 1 : Nat) : Int) ≤ _
            omega
          refine ⟨_, ws ++ [.ref b], rfl, F3.trans (F5.up fun c hc => List.mem_cons_of_mem _ hc), hL3.frS F5 (fun c hc m => ?_), hI6, ok6, by rw [List.length_append, hlw]; rfl, fun k v e => ?_⟩
          · simp only [List.mem_cons, List.not_mem_nil, or_false] at m
            exact m.elim (hac c hc).1 (hac c hc).2
          · rcases Nat.lt_or_ge k ws.length with hk | hk
            · rw [List.getElem?_append_left hk] at e
              exact ((hrw k v e).tups (TupS.same s4)).tups t45
            · rw [List.getElem?_append_right hk] at e
              obtain ⟨rfl, rfl⟩ : k = i ∧ v = .ref b := by
                have hk0 : k - ws.length < [V.ref b].length := (List.getElem?_eq_some_iff.mp e).1
                simp only [List.length_cons, List.length_nil] at hk0
                have hk1 : k - ws.length = 0 := by omega
                rw [hk1] at e
                exact ⟨by omega, (Option.some.inj e).symm⟩
              exact r4.tups t45
        · rw [hh] at z
          cases z
        · rw [hh] at hb'
          cases hb'
          rw [h1] at hlt'
          omega
        · rw [hh] at hb'
          cases hb'
          omega
      · clear hL2 hI2 F2 hst2
        rintro σ H3 ⟨y6, ws, rfl, F3, hL3, hI3, ok3, hlw, hrw⟩
        walk_at "GO"
        exact k j ws H3 hj F3 hL3 hI3 ok3 (by omega) hrw
    · obtain ⟨i, hi, e⟩ := List.getElem_of_mem h0
      exact absurd (by rw [nth_get hi]; exact e) (firstZ_none hn i hi)
/-- what is shown needs of both parts -/
structure JX (K : PySem.W.Frag) (C CS : Addr) (H : Hp) (A : Adr) (s : SD) : Prop where
  law : LT H A s
  tree : IsTree C A.X H A.t A.st A.au A.ad s.d
  store : IsStoreV K CS H A.st A.ac A.ak s.size s.cs s.kv
  sok : SOk s.size s.cs s.kv
  tok : TreeOk s.size s.d
  many : s.cs.length = s.many
  long : ∀ p ∈ s.d.paths, p.length ≤ 80
theorem JX.same {K : PySem.W.Frag} {C CS : Addr} {H H' : Hp} {A : Adr} {s : SD} (j : JX K C CS H A s) (f : Same H H') : JX K C CS H' A s := ⟨j.law.same f, j.tree.same f, storeV_same f j.store, j.sok, j.tok, j.many, j.long⟩
def sp_L_shownX (K : PySem.W.Frag) (C CS : Addr) : Sp := fun vs H Q _ => ∃ (A : Adr) (s : SD), vs = [.ref A.st, .ref A.t, .ref A.ls] ∧ JX K C CS H A s ∧ s.d.paths.length ≤ 1000 ∧ ∀ H', Same H H' → Q (.bl true) H'
theorem ok_L_shownX (T : Txt K mg) : FnOk P w K mg base CX0 13 T.a_L_shown T.d_L_shown ["_law_store", "_law_tree", "_law_state"] (sp_L_shownX K T.c_Tree T.c_Store) := by
  refine T.F_L_shown.ok sc_L_shown (fun vs H Q E h => ?_) (fun cdv A outer s H vs Q E hr h => ?_)
  · obtain ⟨_, _, rfl, _⟩ := h
    rfl
  · obtain ⟨A, s, rfl, j, hz, k⟩ := h
    have hst := j.law.st
    have hho := j.law.hold
    obtain ⟨kt, t1, t2⟩ := j.law.tree
    have hlen := dn_len_eq t2 j.tok.dom j.tok.nod
    refine ⟨_, (pss_cons (ps_if (PW.pt (pw_or (pt_not (k_tru (K := K) rfl (pe_call (ok_L_same_at T 6) (hr.mono (by decide)) (by rfl) T.g_L_same T.F_L_same.kp T.b_L_same .nil pass0 (pa_cons (pe_callB (call_lenO T.m_Tree___len__ (ok_Tree___len__ T) (hr.mono (by decide)) T.b_Tree___len__) (by rfl) T.z_len (by decide +kernel) (pa_cons (pv 1) pa_nil)) (pa_cons (pe_callB call_len_dT (by rfl) T.z_len (by decide +kernel) (pa_cons (pe_dget (u1 hr.units) (pv 2) pe_str (fun _ _ => rfl)) pa_nil)) pa_nil))) (by intro _; rfl))) (pw_or1 (pt_not (k_tru (K := K) rfl (pe_call (ok_L_same_at T 6) (hr.mono (by decide)) (by rfl) T.g_L_same T.F_L_same.kp T.b_L_same .nil pass0 (pa_cons (pe_prop (pv 0) T.C_Store T.P_Store_free (ok_Store_free T) (hr.mono (by decide)) T.b_Store_free .nil pass0 rfl) (pa_cons (k_bm (K := K) rfl PySem.F.plainAttrs_list PySem.F.slot_list_count PySem.F.type_list_count (k_lcount (K := K) rfl) (pe_dget (u1 hr.units) (pv 2) pe_str (fun _ _ => rfl)) (pa_cons pe_int pa_nil)) pa_nil))) (by intro _; rfl)))))) (pss_one (ps_ret pe_bl)) pss_nil)
      (pss_cons (ps_if (pt_not (k_tru (K := K) rfl (pe_call (ok_L_same_at T 6) (hr.mono (by decide)) (by rfl) T.g_L_same T.F_L_same.kp T.b_L_same .nil pass0 (pa_cons (pe_callTy (k_tupS (K := K) rfl) (by rfl) T.z_tuple (by decide +kernel) (pa_cons (pe_callTy (call_listO rfl T.m_Tree___iter__ (ok_Tree___iter__ T) T.b_Tree___iter__ T.m_Tree___len__ (ok_Tree___len__ T) T.b_Tree___len__ (hr.mono (by decide))) (by rfl) T.z_list (by decide +kernel) (pa_cons (pv 1) pa_nil)) pa_nil)) (pa_cons (pe_callTy (k_tupS (K := K) rfl) (by rfl) T.z_tuple (by decide +kernel) (pa_cons (pe_callB (cr_sortedD rfl) (by rfl) T.z_sorted (by decide +kernel) (pa_cons (pe_dget (u1 hr.units) (pv 2) pe_str (fun _ _ => rfl)) pa_nil)) pa_nil)) pa_nil))) (by intro _; rfl))) (pss_one (ps_ret pe_bl)) pss_nil)
      (pss_one (ps_ret (pe_call (ok_L_same_at T 6) (hr.mono (by decide)) (by rfl) T.g_L_same T.F_L_same.kp T.b_L_same .nil pass0 (pa_cons (pe_callTy (k_tupS (K := K) rfl) (by rfl) T.z_tuple (by decide +kernel) (pa_cons (pe_lc (own := [("_law_k", 3)]) (g := gName 3) (tt := tYes) rfl sc_L_shown.nd (pi_range1 rfl T.z_range (pa_cons (pe_dget (u1 hr.units) (pv 2) pe_str (fun _ _ => rfl)) pa_nil)) (blkOk_by (own := [("_law_k", 3)]) (by kernel_rfl)) (fun _ _ _ _ _ => (pg_name (i := 3) sc_L_shown.nd rfl (by first | exact Or.inl rfl | exact Or.inr rfl))) (fun _ _ _ _ _ => pts_nil) (fun _ _ _ _ _ => (pe_meth (pv 0) T.C_Store T.m_Store_holders (ok_Store_holders T) (hr.mono (by decide)) T.b_Store_holders .nil pass0 (pa_cons (pv 3) pa_nil)))) pa_nil)) (pa_cons (pe_callTy (k_tupS (K := K) rfl) (by rfl) T.z_tuple (by decide +kernel) (pa_cons (pe_dget (u1 hr.units) (pv 2) pe_str (fun _ _ => rfl)) pa_nil)) pa_nil))))))), ?_⟩
    refine go_start (σ' := [some (.ref A.st), some (.ref A.t), some (.ref A.ls), none]) rfl ?_
    try dsimp only [cxOf, Cx.nox, Cx.wish]
    walk_at "GO"
    obtain ⟨dt, ap, pvs0, ku, kd, t0, _⟩ := id j.tree
    refine ⟨A.t, dt, _, rfl, t0, A.X, A.t, A.st, A.au, A.ad, s.d, rfl, j.tree, s.d.paths.length, rfl, by omega, ?_⟩
    walk_at "GO"
    refine ⟨A.tr, kt, rfl, t1, ?_⟩
    rw [hlen]
    walk_at "GO"
    refine ⟨_, _, rfl, SmB.int, ?_⟩
    have sI := j.store
    obtain ⟨dy, g0, _⟩ := id sI
    unfold StoreF at g0
    have cS := T.C_Store
    walk_at "GO"
    refine ⟨A.st, A.ac, A.ak, s.size, s.cs, s.kv, rfl, sI, j.sok, fun H1 s1 => ?_⟩
    have hst1 := s1 _ _ hst
    have hho1 := s1 _ _ hho
    have j1 := j.same s1
    clear hst hho t0 g0 t1
    walk_at "GO"
    refine ⟨A.ho, s.cs, 0, rfl, rfl, Sq.lst hho1, ?_⟩
    rw [free_count]
    walk_at "GO"
    refine ⟨_, _, rfl, SmB.int, ?_⟩
    walk_at "GO"
    refine w_listTree j1.tree (by omega) fun l H2 pvs hl s2 e2 r2 => ?_
    have j2 := j1.same s2
    have hst2 := j2.law.st
    obtain ⟨kt2, t2', k2⟩ := j2.law.tree
    walk_at "GO"
    rename_i p1 H3 hp1 s3 e3
    have j3 := j2.same s3
    have hst3 := j3.law.st
    obtain ⟨kt3, t3, k3⟩ := j3.law.tree
    have r3 := r2.imp fun y d h => RKey.mono _ _ _ _ s3 h
    clear hst1 hho1 hst2 e2 r2 t2' k2
    refine w_sortedDict t3 k3 j.tok.dom j.tok.asc j.tok.nod (treeOk_ne j.tok) fun l2 H4 ys hl2 s4 e4 r4 => ?_
    have e34 := s4 _ _ e3
    have r34 := r3.imp fun y d h => RKey.mono _ _ _ _ s4 h
    have hst4 := s4 _ _ hst3
    walk_at "GO"
    rename_i p2 H5 hp2 s5 e5
    have hlong : ∀ d ∈ s.d.paths, d.length ≤ 100000 := fun d hd => by have := j.long d hd; omega
    have hsm : SmB K H5 6 (.ref p1) (.ref p2) := SmB.seq (n := 5) (R := RKey) (S := RKey) (ds := s.d.paths) (by omega) (fun x y d hd hx hy => by
      obtain ⟨x, rfl, hx⟩ := hx
      obtain ⟨y, rfl, hy⟩ := hy
      exact SmB.vec (n := 4) (ns := natI d) (by rw [natI_len]; exact hlong d hd) ⟨x, rfl, Sq.tup hx⟩ ⟨y, rfl, Sq.tup hy⟩)
      ⟨p1, pvs, rfl, Sq.tup (s5 _ _ e34), r34.1, fun i y d h1 h2 => RKey.mono _ _ _ _ s5 (r34.2 i y d h1 h2)⟩ ⟨p2, ys, rfl, Sq.tup e5, r4.1, fun i y d h1 h2 => RKey.mono _ _ _ _ s5 (r4.2 i y d h1 h2)⟩
    refine ⟨_, _, rfl, hsm, ?_⟩
    have j5 := j3.same (s4.trans s5)
    have hst5 := j5.law.st
    have hho5 := j5.law.hold
    have sI5 := j5.store
    obtain ⟨dy5, g5, _⟩ := id sI5
    unfold StoreF at g5
    have s15 := ((((s1.trans s2).trans s3).trans s4).trans s5)
    have hm1 := j.many
    have hm2 := j.sok.many
    clear hsm r34 r4 e34 e4 hst4 hst3 j3 t3 k3 e5
    walk_at "GO"
    refine c_intsR (by omega) (by omega) s.cs (by omega) (fun _ => rfl) (fun b H6 N hb s6 hN => ?_) (fun D H6 hD s6 e6 => ?_)
    · have g6 := s6 _ _ g5
      walk_at "GO"
      refine ⟨A.st, A.ac, A.ak, s.size, .int (b : Int), some (b : Int), s.cs, s.kv, rfl, storeV_same s6 sI5, rfl, fun b' e hb' => ?_, fun z => ?_⟩
      · cases e
        exact hN _ (Same.refl _)
      · exact absurd z (by rw [show btw 0 ((s.cs.length : Int) - 1) (some (b : Int)) = decide (0 ≤ (b : Int) ∧ (b : Int) ≤ (s.cs.length : Int) - 1) from rfl]; simp; omega)
    · have hst6 := s6 _ _ hst5
      have hho6 := s6 _ _ hho5
      walk_at "GO"
      rename_i p3 H7 hp3 s7 e7 p4 H8 hp4 s8 e8
      refine ⟨_, _, rfl, SmB.vec (n := 5) (ns := s.cs) (by omega) ⟨p3, rfl, Sq.tup (s8 _ _ e7)⟩ ⟨p4, rfl, Sq.tup e8⟩, ?_⟩
      exact k _ (s15.trans (s6.trans (s7.trans s8)))
def sp_L_shown (K : PySem.W.Frag) (C CS : Addr) : Sp := fun vs H Q _ => ∃ (A : Adr) (s : SD), vs = [.ref A.st, .ref A.t, .ref A.ls] ∧ JL K C CS H A s ∧ s.d.paths.length ≤ 1000 ∧ ∀ H', Same H H' → Q (.bl true) H'
theorem ok_L_shown (T : Txt K mg) : FnOk P w K mg base CX0 13 T.a_L_shown T.d_L_shown ["_law_store", "_law_tree", "_law_state"] (sp_L_shown K T.c_Tree T.c_Store) :=
  (ok_L_shownX T).imp fun vs H Q E ⟨A, s, h, j, k⟩ => ⟨A, s, h, ⟨j.law, j.tree, j.store, j.sok, j.tok, j.many, j.long⟩, k⟩

/-! ### the law's own tree: put -/
theorem treeCnt_add {size : Nat} {d : TreeD} (ok : TreeOk size d) {q : Path} {j : Nat} (hq : d.under q = none) (b : Nat) : treeCnt (d.add q j) b = treeCnt d b + if j = b then 1 else 0 := by
  have hn : q ∉ d.paths := fun m => by
    have := (ok.dom q).mpr m
    rw [hq] at this
    cases this
  unfold treeCnt TreeD.add
  show ((sortP (d.paths ++ [q])).filter fun p => (if p = q then some j else d.under p) == some b).length = _
  rw [((sortP_perm (d.paths ++ [q])).filter _).length_eq, List.filter_append, List.length_append]
  congr 1
  · congr 1
    refine List.filter_congr fun p hp => ?_
    rw [if_neg fun e => hn (by rw [← e]; exact hp)]
  · rw [List.filter_cons, if_pos rfl]
    by_cases e : j = b
    · rw [if_pos e, e]; simp
    · rw [if_neg e]
      have : ((some j : Option Nat) == some b) = false := by simp [e]
      rw [this]; rfl
theorem newP_none {size : Nat} {d : TreeD} {q : Path} (h : newP size d q = true) : d.under q = none := by
  unfold newP at h
  rw [Bool.and_eq_true] at h
  cases e : d.under q with
  | none => rfl
  | some b => rw [e] at h; cases h.1
theorem treeCnt_use (d : TreeD) (ps : List Path) (b : Nat) : treeCnt (d.use ps) b = treeCnt d b := rfl
theorem treeCnt_put {size : Nat} {d : TreeD} (ok : TreeOk size d) {q : Path} {j : Nat} (b : Nat) : treeCnt (d.put size q j) b = treeCnt d b + if newP size d q = true ∧ j = b then 1 else 0 := by
  unfold TreeD.put
  by_cases h : newP size d q = true
  · rw [if_pos h, treeCnt_use, treeCnt_add ok (newP_none h)]
    simp only [h, true_and]
  · rw [if_neg h, treeCnt_use, if_neg fun z => h z.1]
    rfl
theorem IsTree.more {C : Addr} {X : List Addr} {H : Hp} {t st au ad h : Addr} {d : TreeD} (I : IsTree C X H t st au ad d) (hn : H h = none) : IsTree C (h :: X) H t st au ad d := by
  obtain ⟨dx, ap, pvs, ku, kd, h0, hap, r⟩ := I
  obtain ⟨r1, r2, r3, r4, r5, r6, r7⟩ := r
  exact ⟨dx, ap, pvs, ku, kd, h0, hap, r1, r2, r3, r4, r5, r6, fun m => (List.mem_cons.mp m).elim (fun e => by rw [e, hn] at hap; cases hap) r7⟩
theorem IsTree.less {C : Addr} {X : List Addr} {H : Hp} {t st au ad h : Addr} {d : TreeD} (I : IsTree C (h :: X) H t st au ad d) : IsTree C X H t st au ad d := by
  obtain ⟨dx, ap, pvs, ku, kd, h0, hap, r1, r2, r3, r4, r5, r6, r7⟩ := I
  exact ⟨dx, ap, pvs, ku, kd, h0, hap, r1, r2, r3, r4, r5, r6, fun m => r7 (List.mem_cons_of_mem _ m)⟩
theorem newP_used {size : Nat} {d : TreeD} {q : Path} {b : Nat} (h : d.under q = some b) : newP size d q = false := by
  unfold newP
  rw [h]; rfl
theorem put_old {size : Nat} {d : TreeD} {q : Path} {j : Nat} (h : ¬ newP size d q = true) : d.put size q j = d.use (begD size d.under q) := if_neg h
theorem put_new {size : Nat} {d : TreeD} {q : Path} {j : Nat} (h : newP size d q = true) : d.put size q j = (d.add q j).use (begD size (d.add q j).under q) := if_pos h
/-- the parts, of which the law's own may be ahead -/
structure JP (K : PySem.W.Frag) (C CS : Addr) (H : Hp) (A : Adr) (s s2 : SD) : Prop where
  pool : IsPool H A.p
  law : LT H A s
  tree : IsTree C A.X H A.t A.st A.au A.ad s2.d
  store : IsStoreV K CS H A.st A.ac A.ak s2.size s2.cs s2.kv
  dPL : A.p ∉ A.sl
  dPT : A.p ∉ A.sT
  dPS : A.p ∉ A.sS
  dLT : ∀ c ∈ A.sl, c ∉ A.sT
  dLS : ∀ c ∈ A.sl, c ∉ A.sS
  dTS : ∀ c ∈ A.sT, c ∉ A.sS
section
variable {K : PySem.W.Frag} {C CS : Addr} {H H' : Hp} {A : Adr} {s s2 : SD} {S : List Addr}
theorem JL.jp (j : JL K C CS H A s) : JP K C CS H A s s := ⟨j.pool, j.law, j.tree, j.store, j.dPL, j.dPT, j.dPS, j.dLT, j.dLS, j.dTS⟩
theorem JP.same (j : JP K C CS H A s s2) (f : Same H H') : JP K C CS H' A s s2 :=
  ⟨j.pool.same f, j.law.same f, j.tree.same f, storeV_same f j.store, j.dPL, j.dPT, j.dPS, j.dLT, j.dLS, j.dTS⟩
theorem JP.nt (j : JP K C CS H A s s2) (h : ∀ c ∈ S, c = A.p ∨ c ∈ A.sl ∨ c ∈ A.sT ∨ c ∈ A.sS) : ∀ c ∈ S, NTup (H c) := fun c hc => by
  rcases h c hc with z | z | z | z
  · rw [z]; exact j.pool.nt
  · exact j.law.nt c z
  · exact j.tree.nt c z
  · exact storeV_nt j.store c z
theorem JP.allocd (j : JP K C CS H A s s2) : ∀ x ∈ A.X, ∃ o, H x = some o := fun x hx => by
  obtain ⟨kt, t1, _⟩ := j.law.tree
  obtain ⟨ku, U, u1, _⟩ := j.law.used
  obtain ⟨ns, p1, _⟩ := j.pool
  obtain ⟨dx, h1, h2, ⟨ks, g1, _⟩, _⟩ := j.store
  simp only [Adr.X, Adr.sl, Adr.sS, List.mem_cons, List.mem_append, List.not_mem_nil, or_false] at hx
  rcases hx with rfl | (rfl | rfl | rfl | rfl | rfl | rfl) | rfl | rfl | rfl
  · exact ⟨_, p1⟩
  · exact ⟨_, j.law.st⟩
  · exact ⟨_, t1⟩
  · exact ⟨_, u1⟩
  · exact ⟨_, j.law.hold⟩
  · obtain ⟨lc, c1, _⟩ := j.law.clock
    exact ⟨_, c1⟩
  · exact ⟨_, j.law.mine⟩
  · exact ⟨_, h1⟩
  · exact ⟨_, h2⟩
  · exact ⟨_, g1⟩
theorem JP.fresh (j : JP K C CS H A s s2) {h : Addr} (hn : H h = none) : h ≠ A.p ∧ h ∉ A.sl ∧ h ∉ A.sT ∧ h ∉ A.sS := by
  have a : h ∉ A.X := fun m => by
    obtain ⟨o, e⟩ := j.allocd h m
    rw [hn] at e; cases e
  have a2 : h ∉ A.sT := fun m => by
    obtain ⟨dx, ap, pvs, ku, kd, g0, _, _, g1, _, g2, _⟩ := j.tree
    simp only [Adr.sT, List.mem_cons, List.not_mem_nil, or_false] at m
    rcases m with rfl | rfl | rfl
    · rw [hn] at g0; cases g0
    · rw [hn] at g1; cases g1
    · rw [hn] at g2; cases g2
  exact ⟨fun e => a (by rw [e]; exact List.mem_cons_self), fun m => a (List.mem_cons_of_mem _ (List.mem_append.mpr (.inl m))), a2, fun m => a (List.mem_cons_of_mem _ (List.mem_append.mpr (.inr m)))⟩
/-- cells of some parts change: the others stand -/
theorem JP.lawS (j : JP K C CS H A s s2) {s' : SD} (f : FrS S H H') (hS : ∀ c ∈ S, c ∈ A.sl) (hL : LT H' A s') : JP K C CS H' A s' s2 := by
  have hn := j.nt (S := S) fun c hc => .inr (.inl (hS c hc))
  have hT : ∀ c ∈ A.sT, c ∉ S := fun c hc m => j.dLT c (hS c m) hc
  have hI : ∀ c ∈ A.sS, c ∉ S := fun c hc m => j.dLS c (hS c m) hc
  exact ⟨pool_frS j.pool f fun m => j.dPL (hS _ m), hL, j.tree.frS f hn (hT _ (by simp)) (hT _ (by simp)) (hT _ (by simp)) fun c hc => List.mem_cons_of_mem _ (List.mem_append.mpr (.inl (hS c hc))), storeV_frS f hn (hI _ (by simp)) (hI _ (by simp)) (hI _ (by simp)) j.store, j.dPL, j.dPT, j.dPS, j.dLT, j.dLS, j.dTS⟩
theorem JP.partS (j : JP K C CS H A s s2) {s' : SD} (f : FrS S H H') (hS : ∀ c ∈ S, c ∈ A.sT ∨ c ∈ A.sS) (hT : IsTree C A.X H' A.t A.st A.au A.ad s'.d) (hI : IsStoreV K CS H' A.st A.ac A.ak s'.size s'.cs s'.kv) : JP K C CS H' A s s' :=
  ⟨pool_frS j.pool f fun m => (hS _ m).elim j.dPT j.dPS, j.law.frS f fun c hc m => (hS c m).elim (j.dLT c hc) (j.dLS c hc), hT, hI, j.dPL, j.dPT, j.dPS, j.dLT, j.dLS, j.dTS⟩
theorem JP.storeS (j : JP K C CS H A s s2) {s' : SD} (f : FrS S H H') (hS : ∀ c ∈ S, c ∈ [A.ac, A.ak]) (hd : s'.d = s2.d) (hI : IsStoreV K CS H' A.st A.ac A.ak s'.size s'.cs s'.kv) : JP K C CS H' A s s' := by
  have hS2 : ∀ c ∈ S, c ∈ A.sS := fun c hc => List.mem_cons_of_mem _ (hS c hc)
  have hT : ∀ c ∈ A.sT, c ∉ S := fun c hc m => j.dTS c hc (hS2 c m)
  exact j.partS f (fun c hc => .inr (hS2 c hc)) (by rw [hd]; exact j.tree.frS f (j.nt fun c hc => .inr (.inr (.inr (hS2 c hc)))) (hT _ (by simp)) (hT _ (by simp)) (hT _ (by simp)) fun c hc => List.mem_cons_of_mem _ (List.mem_append.mpr (.inr (hS2 c hc)))) hI
theorem JP.draw (j : JP K C CS H A s s2) (f : Fr A.p H H') (hp : IsPool H' A.p) : JP K C CS H' A s s2 := by
  have F : FrS [A.p] H H' := FrS.of f (by simp)
  have hn : ∀ c ∈ [A.p], NTup (H c) := fun c hc => by rw [List.mem_singleton.mp hc]; exact j.pool.nt
  have hT := j.dPT
  have hS := j.dPS
  simp only [Adr.sT, Adr.sS, List.mem_cons, List.not_mem_nil, or_false, not_or] at hT hS
  exact ⟨hp, j.law.frS F fun c hc m => j.dPL (by rw [← List.mem_singleton.mp m]; exact hc), j.tree.frS F hn (by simp [Ne.symm hT.1]) (by simp [Ne.symm hT.2.1]) (by simp [Ne.symm hT.2.2]) (fun c hc => by rw [List.mem_singleton.mp hc]; simp), storeV_frS F hn (by simp [Ne.symm hS.1]) (by simp [Ne.symm hS.2.1]) (by simp [Ne.symm hS.2.2]) j.store, j.dPL, j.dPT, j.dPS, j.dLT, j.dLS, j.dTS⟩
theorem JP.any (j : JP K C CS H A s s2) {s' s2' : SD} (f : FrS S H H') (hS : ∀ c ∈ S, c ∈ A.sl ∨ c ∈ A.sS) (hd : s2'.d = s2.d) (hL : LT H' A s') (hI : IsStoreV K CS H' A.st A.ac A.ak s2'.size s2'.cs s2'.kv) : JP K C CS H' A s' s2' := by
  have hn := j.nt (S := S) fun c hc => (hS c hc).elim (fun z => .inr (.inl z)) fun z => .inr (.inr (.inr z))
  have hT : ∀ c ∈ A.sT, c ∉ S := fun c hc m => (hS c m).elim (fun z => j.dLT c z hc) (j.dTS c hc)
  exact ⟨pool_frS j.pool f fun m => (hS _ m).elim j.dPL j.dPS, hL, by rw [hd]; exact j.tree.frS f hn (hT _ (by simp)) (hT _ (by simp)) (hT _ (by simp)) fun c hc => List.mem_cons_of_mem _ (List.mem_append.mpr (hS c hc)), hI, j.dPL, j.dPT, j.dPS, j.dLT, j.dLS, j.dTS⟩
/-- a list of the law's own changes -/
theorem JP.other (j : JP K C CS H A s s2) {h : Addr} {xs : List V} {o : HO} (hT : IsTree C (h :: A.X) H A.t A.st A.au A.ad s2.d) (hh : H h = some (.lst xs)) (n : h ≠ A.p ∧ h ∉ A.sl ∧ h ∉ A.sT ∧ h ∉ A.sS) : JP K C CS (upd H h o) A s s2 := by
  have F : FrS [h] H (upd H h o) := (FrS.same (Same.refl _)).upd _ (by simp)
  have hn : ∀ c ∈ [h], NTup (H c) := fun c hc => by rw [List.mem_singleton.mp hc]; exact NTup.lst hh
  obtain ⟨n0, n1, n2, n3⟩ := n
  simp only [Adr.sT, Adr.sS, List.mem_cons, List.not_mem_nil, or_false, not_or] at n2 n3
  exact ⟨pool_frS j.pool F (by simp [Ne.symm n0]), j.law.frS F fun c hc m => n1 (by rw [← List.mem_singleton.mp m]; exact hc), (hT.frS F hn (by simp [Ne.symm n2.1]) (by simp [Ne.symm n2.2.1]) (by simp [Ne.symm n2.2.2]) (fun c hc => by rw [List.mem_singleton.mp hc]; simp)).less, storeV_frS F hn (by simp [Ne.symm n3.1]) (by simp [Ne.symm n3.2.1]) (by simp [Ne.symm n3.2.2]) j.store, j.dPL, j.dPT, j.dPS, j.dLT, j.dLS, j.dTS⟩
theorem JP.addP (j : JP K C CS H A s s2) {kt : List (List Key × V)} {q : Path} {jj : Nat} (t : H A.tr = some (.dT kt)) (k2 : DN kt s.d.under) : JP K C CS (upd (upd H A.tr (.dT (putK kt (keyI q) (.int (jj : Int))))) A.ho (.lst ((s.cs.set jj 2).map V.int))) A { s with cs := s.cs.set jj 2, d := s.d.add q jj } s2 := by
  have hst := j.law.st
  have hho := j.law.hold
  obtain ⟨ku, U, v1, v2, v3, v4⟩ := j.law.used
  obtain ⟨lc, hcl, hlc⟩ := j.law.clock
  have hmi := j.law.mine
  have n1 : A.ls ≠ A.tr := fun z => by rw [z, t] at hst; cases hst
  have n2 : A.ls ≠ A.ho := fun z => by rw [z, hho] at hst; cases hst
  have n3 : A.tr ≠ A.ho := fun z => by rw [z, hho] at t; cases t
  have n4 : A.us ≠ A.ho := fun z => by rw [z, hho] at v1; cases v1
  have n5 : A.cl ≠ A.tr := fun z => by rw [z, t] at hcl; cases hcl
  have n6 : A.mi ≠ A.tr := fun z => by rw [z, t] at hmi; cases hmi
  refine j.lawS (S := [A.tr, A.ho]) (((FrS.same (Same.refl _)).upd _ (by simp)).upd _ (by simp)) (by simp) ⟨(upd_ne n2).trans ((upd_ne n1).trans hst), ⟨_, (upd_ne n3).trans upd_same, k2.put q jj⟩, ⟨ku, U, (upd_ne n4).trans ((upd_ne (Ne.symm j.law.n1)).trans v1), v2, v3, v4⟩, upd_same, ⟨lc, (upd_ne (Ne.symm j.law.n2)).trans ((upd_ne n5).trans hcl), hlc⟩, (upd_ne (Ne.symm j.law.n3)).trans ((upd_ne n6).trans hmi), j.law.n1, j.law.n2, j.law.n3, j.law.n4⟩
theorem JL.done (j : JL K C CS H A s) {q : Path} {n jj N' : Nat} {cs3 : List Int} {kv3 : List (List V)} {mine' : List Nat} (hql : q.length = (n + 1) * s.size) (h80 : q.length ≤ 80) (hjl : jj < s.cs.length) (hlen : cs3.length = s.cs.length)
    (hcs : ∀ b : Nat, b < s.cs.length → nth cs3 ((b : Nat) : Int) = (treeCnt (s.d.put s.size q jj) b : Int) + (mine'.count b : Int)) (hm : ∀ b ∈ mine', b < s.cs.length) (ok : SOk s.size cs3 kv3) (hf : mine'.length ≤ N')
    (p : JP K C CS H' A { s with N := N', d := s.d.put s.size q jj, cs := cs3, mine := mine' } { s with d := s.d.put s.size q jj, cs := cs3, kv := kv3 }) : JL K C CS H' A { s with N := N', d := s.d.put s.size q jj, cs := cs3, kv := kv3, mine := mine' } := by
  have l := p.law
  have hund : ∀ p b, (s.d.put s.size q jj).under p = some b → b < cs3.length := fun p b e => by
    rw [hlen]
    by_cases hn : newP s.size s.d q = true
    · rw [put_new hn] at e
      have e : (if p = q then some jj else s.d.under p) = some b := e
      by_cases z : p = q
      · rw [if_pos z] at e
        cases e
        exact hjl
      · rw [if_neg z] at e
        exact j.und p b e
    · rw [put_old hn] at e
      exact j.und p b e
  have hlong : ∀ p ∈ (s.d.put s.size q jj).paths, p.length ≤ 80 := fun p hp => by
    by_cases hn : newP s.size s.d q = true
    · rw [put_new hn] at hp
      have hp : p ∈ sortP (s.d.paths ++ [q]) := hp
      rcases List.mem_append.mp (mem_sortP.mp hp) with z | z
      · exact j.long p z
      · rw [List.mem_singleton.mp z]; exact h80
    · rw [put_old hn] at hp
      exact j.long p hp
  exact ⟨p.pool, ⟨l.st, l.tree, l.used, l.hold, l.clock, l.mine, l.n1, l.n2, l.n3, l.n4⟩, p.tree, p.store, ok, j.tok.put hql, j.dPL, j.dPT, j.dPS, j.dLT, j.dLS, j.dTS, hlen.trans j.many, j.lets, hund, fun b hb => hcs b (by rw [← hlen]; exact hb), fun b hb => by show b < cs3.length; rw [hlen]; exact hm b hb, hlong, hf⟩
end
theorem put_len (size : Nat) (d : TreeD) (q : Path) (b : Nat) : (d.put size q b).paths.length ≤ d.paths.length + 1 := by
  unfold TreeD.put
  split
  · show (sortP (d.paths ++ [q])).length ≤ _
    rw [sortP_len, List.length_append]
    exact Nat.le_refl _
  · exact Nat.le_succ _
theorem isD_t {H : Hp} {a : Addr} {kt : List (List Key × V)} (h : H a = some (.dT kt)) : IsD H a := .inr ⟨kt, .inl h⟩
theorem cutV_negN {xs : List V} {n : Nat} (h1 : 1 ≤ n) (h2 : n ≤ xs.length) : cutV xs none (some (0 - (n : Int))) = xs.take (xs.length - n) := by
  unfold cutV
  have e : HT.sIx xs.length xs.length (some (0 - (n : Int))) = xs.length - n := by
    show (if (0 - (n : Int)) < 0 then ((0 - (n : Int)) + (xs.length : Int)).toNat else min (0 - (n : Int)).toNat xs.length) = xs.length - n
    rw [if_pos (by omega)]
    omega
  rw [HT.sIx_none, e, List.drop_zero, Nat.sub_zero]
structure SStep (s s' : SD) (q : Path) : Prop where
  size : s'.size = s.size
  many : s'.many = s.many
  letters : s'.letters = s.letters
  N : s'.N ≤ s.N + 100
  paths : s'.d.paths.length ≤ s.d.paths.length + 1
  put : ∃ jj, s'.d = s.d.put s.size q jj ∧ (newP s.size s.d q = true → treeCnt s.d jj = 0)
  len : s'.cs.length = s.cs.length
  mine : s'.mine = s.mine ∨ ∃ jj, s'.mine = s.mine ++ [jj]
def sp_L_put (K : PySem.W.Frag) (C CS : Addr) : Sp := fun vs H Q _ => ∃ (A : Adr) (s : SD) (a : Addr) (q : Path) (kp : Bool) (n : Nat), vs = [.ref A.p, .ref A.st, .ref A.t, .ref A.ls, .ref a, .bl kp] ∧ JL K C CS H A s ∧ H a = some (.tup ((natI q).map V.int)) ∧ q.length = (n + 1) * s.size ∧ q.length ≤ 80 ∧ s.N ≤ 10000 ∧ s.d.paths.length ≤ 1000 ∧ (0 : Int) ∈ s.cs ∧ ∀ (s' : SD) H', JL K C CS H' A s' → SStep s s' q → (kp = false → s'.mine = s.mine) → (RowsAt H s → RowsAt H' s') → Q (.bl true) H'
theorem ok_L_put (T : Txt K mg) : FnOk P w K mg base CX0 9 T.a_L_put T.d_L_put ["_law_pool_here", "_law_store", "_law_tree", "_law_state", "_law_path_here", "_law_keeps"] (sp_L_put K T.c_Tree T.c_Store) := by
  refine T.F_L_put.ok sc_L_put (fun vs H Q E h => ?_) (fun cdv A outer s H vs Q E hr h => ?_)
  · obtain ⟨_, _, _, _, _, _, rfl, _⟩ := h
    rfl
  · obtain ⟨A, s, a, q, kp, n, rfl, j, ha, hql, hq80, hN, hz, h0, k⟩ := h
    have hst := j.law.st
    obtain ⟨kt, t1, t2⟩ := j.law.tree
    refine ⟨_, (pss_cons (ps_set (i := 6) sc_L_put.nd rfl (Or.inl rfl) (pe_dget (u1 hr.units) (pv 3) pe_str (fun _ _ => rfl)))
      (pss_cons (ps_set (i := 7) sc_L_put.nd rfl (Or.inl rfl) (pe_dget (u1 hr.units) (pv 3) pe_str (fun _ _ => rfl)))
      (Evl.pss_cut (ps_if (PW.pt (pw_and (pt_cmp (pc_din (u1 hr.units) (pv 4) (pv 6)) rfl) (pw_and1 (pt_cmpR (k_eqG (K := K) rfl hr.units) (pe_call (ok_L_draw T) (hr.mono (by decide)) (by rfl) T.g_L_draw T.F_L_draw.kp T.b_L_draw .nil pass0 (pa_cons (pv 0) (pa_cons pe_int pa_nil))) pe_int (nomark _))))) (pss_cons (ps_expr (pe_call (ok_L_uses T) (hr.mono (by decide)) (by rfl) T.g_L_uses T.F_L_uses.kp T.b_L_uses .nil pass0 (pa_cons (pv 3) (pa_cons (pv 4) pa_nil))))
      (pss_one (ps_ret (pe_call (ok_L_same_at T 6) (hr.mono (by decide)) (by rfl) T.g_L_same T.F_L_same.kp T.b_L_same .nil pass0 (pa_cons (pe_meth (pv 2) T.C_Tree T.m_Tree_put (ok_Tree_put T) (hr.mono (by decide)) T.b_Tree_put .nil pass0 (pa_cons (pe_call (ok_L_as T) (hr.mono (by decide)) (by rfl) T.g_L_as T.F_L_as.kp T.b_L_as .nil pass0 (pa_cons (pv 0) (pa_cons (pv 4) pa_nil))) (pa_cons (pe_dget (u1 hr.units) (pv 6) (pv 4) (fun _ _ => rfl)) pa_nil))) (pa_cons (pe_dget (u1 hr.units) (pv 6) (pv 4) (fun _ _ => rfl)) pa_nil)))))) pss_nil)
      (pss_cons (ps_set (i := 8) sc_L_put.nd rfl (Or.inl rfl) (pe_call (ok_L_filled T) (hr.mono (by decide)) (by rfl) T.g_L_filled T.F_L_filled.kp T.b_L_filled .nil pass0 (pa_cons (pv 1) (pa_cons (pv 3) (pa_cons (pv 4) pa_nil)))))
      (pss_cons (ps_if (pt_cmpR op_lt (pv 8) pe_int (nomark _)) (pss_one (ps_ret pe_bl)) pss_nil)
      (pss_cons (ps_set (i := 9) sc_L_put.nd rfl (Or.inl rfl) (pe_dget2 (u1 hr.units) (pv 6) (pv 4) (pv 8) ⟨rfl, rfl, rfl, rfl⟩))
      (Evl.pss_cut (ps_if (PW.pt (pw_and (pt_cmp (pc_dnotin (u1 hr.units) (pv 4) (pv 6)) rfl) (pw_and1 (PW.pt (pw_or (pt_cmpR op_le (pe_callB (k_lenS (K := K) rfl) (by rfl) T.z_len (by decide +kernel) (pa_cons (pv 4) pa_nil)) (pe_dget (u1 hr.units) (pv 3) pe_str (fun _ _ => rfl)) (nomark _)) (pw_or1 (pt_cmp (pc_din (u1 hr.units) (pe_slice (k_slG (K := K) rfl) (pv 4) po_none (po_some (pe_op op_sub pe_int (pe_dget (u1 hr.units) (pv 3) pe_str (fun _ _ => rfl))))) (pv 6)) rfl))))))) (pss_cons (ps_dput (u1 hr.units) (pv 6) (pv 4) (pv 8) rfl)
      (pss_one (ps_asg pe_int (pg_sub (pv 7) (pv 8) set_list)))) pss_nil)
      (pss_cons (ps_expr (pe_call (ok_L_uses T) (hr.mono (by decide)) (by rfl) T.g_L_uses T.F_L_uses.kp T.b_L_uses .nil pass0 (pa_cons (pv 3) (pa_cons (pv 4) pa_nil))))
      (pss_cons (ps_set (i := 10) sc_L_put.nd rfl (Or.inl rfl) (pe_callTy (k_listS (K := K) rfl) (by rfl) T.z_list (by decide +kernel) (pa_cons (pv 4) pa_nil)))
      (pss_cons (ps_if (pt_not (k_tru (K := K) rfl (pe_call (ok_L_same_at T 6) (hr.mono (by decide)) (by rfl) T.g_L_same T.F_L_same.kp T.b_L_same .nil pass0 (pa_cons (pe_meth (pv 2) T.C_Tree T.m_Tree_put (ok_Tree_put T) (hr.mono (by decide)) T.b_Tree_put .nil pass0 (pa_cons (pe_ix (k_ix (K := K) rfl) (pe_lst (pa_cons (pv 10) (pa_cons (pv 4) pa_nil))) (pe_call (ok_L_draw T) (hr.mono (by decide)) (by rfl) T.g_L_draw T.F_L_draw.kp T.b_L_draw .nil pass0 (pa_cons (pv 0) (pa_cons pe_int pa_nil))) (fun _ _ => rfl)) (pa_cons (pv 8) pa_nil))) (pa_cons (pv 9) pa_nil))) (by intro _; rfl))) (pss_one (ps_ret pe_bl)) pss_nil)
      (pss_cons (ps_expr (k_bm0 (K := K) rfl PySem.F.plainAttrs_list PySem.F.slot_list_clear PySem.F.type_list_clear mt_clear (pv 10)))
      (pss_cons (ps_if (k_tru (K := K) rfl (pv 5) (by intro _; rfl)) (pss_one (ps_expr (k_bm (K := K) rfl PySem.F.plainAttrs_list PySem.F.slot_list_append PySem.F.type_list_append mt_append (pe_dget (u1 hr.units) (pv 3) pe_str (fun _ _ => rfl)) (pa_cons (pv 8) pa_nil)))) (pss_cons (ps_expr (pe_meth (pv 1) T.C_Store T.m_Store_release (ok_Store_release T) (hr.mono (by decide)) T.b_Store_release .nil pass0 (pa_cons (pv 8) pa_nil)))
      (pss_one (ps_expr (pe_call (ok_L_release T) (hr.mono (by decide)) (by rfl) T.g_L_release T.F_L_release.kp T.b_L_release .nil pass0 (pa_cons (pv 3) (pa_cons (pv 8) pa_nil)))))))
      (pss_one (ps_ret pe_bl)))))))))))))), ?_⟩
    refine go_start (σ' := [some (.ref A.p), some (.ref A.st), some (.ref A.t), some (.ref A.ls), some (.ref a), some (.bl kp), none, none, none, none, none]) rfl ?_
    try dsimp only [cxOf, Cx.nox, Cx.wish]
    have hs1 := j.sok.size
    have hak := ha
    rw [← keyI_V] at hak
    walk_at "GO"
    obtain ⟨Mid, hMid⟩ : ∃ Mid : L2.St → Hp → Prop, Mid = fun σ H' => σ = [some (.ref A.p), some (.ref A.st), some (.ref A.t), some (.ref A.ls), some (.ref a), some (.bl kp), some (.ref A.tr), some (.ref A.ho), none, none, none] ∧ JL K T.c_Tree T.c_Store H' A s ∧ TupS H H' := ⟨_, rfl⟩
    refine w_cut Mid ?_ ?_
    · walk_at "GO"
      refine w_din ?_
      walk_at "GO"
      refine ⟨A.tr, _, rfl, DGet.t t1 hak, ?_⟩
      rw [t2.val]
      cases hu : s.d.under q with
      | none =>
        rw [show (Option.map natV none).isSome = false from rfl]
        walk_at "GO"
        rw [hMid]
        exact ⟨rfl, j, fun _ _ h => h⟩
      | some b =>
        rw [show (Option.map natV (some b)).isSome = true from rfl]
        walk_at "GO"
        refine ⟨A.p, 4, rfl, j.pool, by omega, fun r H1 r0 r1 f1 hP1 => ?_⟩
        have j1 := j.draw f1 hP1
        have tu1 := TupS.fr f1 j.pool.nt
        walk_at "GO"
        refine w_iteD (fun hr0 => ?_) (fun hr0 => ?_)
        · walk_at "GO"
          refine ⟨A, s, a, q, rfl, j1.law, ⟨s.d, j.tok, rfl⟩, by omega, tu1 _ _ ha, by omega, by omega, fun H2 f2 hL2 => ?_⟩
          have p2 := j1.jp.lawS f2 (by simp) hL2
          obtain ⟨dt, ap, pvs0, ku, kd, t0, _⟩ := id p2.tree
          unfold TreeF at t0
          have cT := T.C_Tree
          have hnt : ∀ c ∈ [A.us, A.cl], NTup (H1 c) := j1.nt fun c hc => .inr (.inl (by revert hc; simp; rintro (rfl | rfl) <;> simp))
          have ha2 := f2.at (tup_not hnt (tu1 _ _ ha)) (tu1 _ _ ha)
          walk_at "GO"
          refine ⟨A.p, a, _, rfl, p2.pool, ha2, by rw [List.length_map, natI_len]; omega, fun a' b' H3 f3 hP3 hS3 _ => ?_⟩
          have p3 := p2.draw f3 hP3
          have ha3 := (TupS.fr f3 p2.pool.nt) _ _ ha2
          have hak3 := ha3
          rw [← keyI_V] at hak3
          obtain ⟨kt3, t3, k3⟩ := p3.law.tree
          have hg := DGet.t t3 hak3
          rw [k3.val, show (s.d.use (begD s.size s.d.under q)).under q = some b from hu] at hg
          have hnew := newP_used (size := s.size) hu
          have hbl := j.und q b hu
          have hb0 : nth s.cs ((b : Nat) : Int) ≠ 0 := by
            rw [j.cnt b hbl]
            have hm : q ∈ s.d.paths.filter fun p => s.d.under p == some b := List.mem_filter.mpr ⟨(j.tok.dom q).mp (by rw [hu]; rfl), by rw [hu]; simp⟩
            have := List.length_pos_of_mem hm
            unfold treeCnt
            omega
          clear t0
          walk_at "GO"
          refine ⟨A.tr, .int (b : Int), rfl, hg, ?_⟩
          clear hg hak3 t3
          refine ⟨A.X, A.t, A.st, A.au, A.ad, A.ac, A.ak, a', b', s.d, s.size, s.cs, s.kv, q, b, n, rfl, p3.tree, p3.store, j.sok, j.tok, hS3, hql, by omega, by omega, heldD_of hbl hb0, by simp, by simp, p3.allocd, fun H4 f4 hT4 hI4 => ?_⟩
          have hput := put_old (j := b) (show ¬ newP s.size s.d q = true by rw [hnew]; decide)
          unfold putC at hI4
          rw [hnew, if_neg (by decide)] at hI4
          rw [hput] at hT4 ⊢
          have p4 := p3.partS (s' := { s with d := s.d.use (begD s.size s.d.under q), N := s.N + q.length }) f4 (by
            simp only [List.mem_cons, List.not_mem_nil, or_false]
            rintro c (rfl | rfl | rfl | rfl | rfl) <;> simp) hT4 hI4
          rw [show ((s.d.use (begD s.size s.d.under q)).under q).getD b = b by rw [show (s.d.use (begD s.size s.d.under q)).under q = some b from hu]; rfl]
          have nt3 : ∀ c ∈ [A.t, A.au, A.ad, A.ac, A.ak], NTup (H3 c) := p3.nt (S := [A.t, A.au, A.ad, A.ac, A.ak]) (by
            simp only [List.mem_cons, List.not_mem_nil, or_false]
            rintro c (rfl | rfl | rfl | rfl | rfl) <;> simp)
          have ha4 := f4.at (tup_not nt3 ha3) ha3
          rw [← keyI_V] at ha4
          obtain ⟨kt4, t4, k4⟩ := p4.law.tree
          have hg := DGet.t t4 ha4
          rw [k4.val, show (s.d.use (begD s.size s.d.under q)).under q = some b from hu] at hg
          clear t4
          walk_at "GO"
          refine ⟨A.tr, .int (b : Int), rfl, hg, ?_⟩
          walk_at "GO"
          refine ⟨_, _, rfl, SmB.int, ?_⟩
          exact k { s with d := s.d.use (begD s.size s.d.under q), N := s.N + q.length } H4 ⟨p4.pool, p4.law, p4.tree, p4.store, j.sok, j.tok.use (j.tok.begs q), j.dPL, j.dPT, j.dPS, j.dLT, j.dLS, j.dTS, j.many, j.lets, j.und, j.cnt, j.minb, j.long, by have := j.few; show s.mine.length ≤ s.N + q.length; omega⟩ ⟨rfl, rfl, rfl, by show s.N + q.length ≤ s.N + 100; omega, Nat.le_succ _, ⟨b, hput.symm, fun z => by rw [hnew] at z; cases z⟩, rfl, .inl rfl⟩ (fun _ => rfl) fun hr => hr.keep (((tu1.trans (TupS.frS f2 hnt)).trans (TupS.fr f3 p2.pool.nt)).trans (TupS.frS f4 nt3)) rfl rfl fun p c e => ⟨e, rfl⟩
        · walk_at "GO"
          rw [hMid]
          exact ⟨rfl, j1, tu1⟩
    · rw [hMid]
      clear hMid
      rintro σ H1 ⟨rfl, j1, tu1⟩
      have ha1 := tu1 _ _ ha
      have hst1 := j1.law.st
      clear hst t1 t2 hak
      walk_at "GO"
      refine ⟨A, s, a, q, rfl, j1.law, j1.store, j1.sok, j1.dLS, j1.lets.2, ha1, by omega, h0, fun jj ws H2 hj f2 hL2 hI2 ok2 hwl hwr => ?_⟩
      obtain ⟨kv1, hkv1⟩ : ∃ kv1, kv1 = s.kv.set jj ws := ⟨_, rfl⟩
      rw [← hkv1] at hI2 ok2
      have p2 := j1.jp.any (s2' := { s with cs := s.cs.set jj 1, kv := kv1 }) f2 (by simp) rfl hL2 hI2
      have hnt : ∀ c ∈ [A.ho, A.ac, A.ak], NTup (H1 c) := j1.nt fun c hc => by
        revert hc
        simp only [List.mem_cons, List.not_mem_nil, or_false]
        rintro (rfl | rfl | rfl) <;> simp
      have ha2 := f2.at (tup_not hnt ha1) ha1
      have tu2 := tu1.trans (TupS.frS f2 hnt)
      have hst2 : H2 A.ls = some (.dK (StF s.size s.many s.letters A.tr A.us A.ho A.cl A.mi)) := hL2.st
      obtain ⟨hjl, hj0, _⟩ := firstZ_some hj
      clear hst1 ha1 hI2
      walk_at "GO"
      rw [if_neg (by simp)]
      walk_at "GO"
      obtain ⟨kt2, t2, k2⟩ := p2.law.tree
      have hak2 := ha2
      rw [← keyI_V] at hak2
      have hg2 := DGet.t t2 hak2
      rw [k2.val] at hg2
      have hg2 : DGet H2 A.tr (.ref a) (Option.map natV (s.d.under q)) := hg2
      refine w_dget2 ?_
      walk_at "GO"
      refine ⟨A.tr, rfl, isD_t t2, ?_⟩
      walk_at "GO"
      refine ⟨_, hg2, ?_⟩
      rw [show (Option.map natV (s.d.under q)).getD (.int (jj : Int)) = .int ((((s.d.under q).getD jj : Nat)) : Int) by cases s.d.under q <;> rfl]
      walk_at "GO"
      obtain ⟨Mid2, hMid2⟩ : ∃ Mid : L2.St → Hp → Prop, Mid = fun σ H' => σ = [some (.ref A.p), some (.ref A.st), some (.ref A.t), some (.ref A.ls), some (.ref a), some (.bl kp), some (.ref A.tr), some (.ref A.ho), some (.int (jj : Int)), some (.int ((((s.d.under q).getD jj : Nat)) : Int)), none] ∧ JP K T.c_Tree T.c_Store H' A { s with cs := if newP s.size s.d q = true then s.cs.set jj 2 else s.cs.set jj 1, d := if newP s.size s.d q = true then s.d.add q jj else s.d } { s with cs := s.cs.set jj 1, kv := kv1 } ∧ TupS H2 H' := ⟨_, rfl⟩
      refine w_cut Mid2 ?_ ?_
      · walk_at "GO"
        refine w_dnotin ?_
        walk_at "GO"
        refine ⟨A.tr, _, rfl, hg2, ?_⟩
        cases hu : s.d.under q with
        | some b =>
          have hnew := newP_used (size := s.size) hu
          rw [show (Option.map natV (some b)).isSome = true from rfl]
          walk_at "GO"
          rw [hMid2, hnew, if_neg (by decide), if_neg (by decide), hu]
          exact ⟨rfl, p2, fun _ _ h => h⟩
        | none =>
          rw [show (Option.map natV none).isSome = false from rfl]
          have hSa2 : Sq false K H2 a ((natI q).map V.int) := Sq.tup ha2
          have hnq := natI_len q
          have hqs : s.size ≤ q.length := by rw [hql, Nat.add_mul, Nat.one_mul]; omega
          have hlu : kt2.length ≤ s.d.paths.length := k2.len fun p hp => (j.tok.dom p).mp hp
          have hho2 : H2 A.ho = some (.lst ((s.cs.set jj 1).map V.int)) := p2.law.hold
          have hth : A.ho ≠ A.tr := fun z => by rw [z, t2] at hho2; cases hho2
          have hat : a ≠ A.tr := fun z => by rw [z, t2] at ha2; cases ha2
          have hah : a ≠ A.ho := fun z => by rw [z, hho2] at ha2; cases ha2
          have hset : (s.cs.set jj 1).set jj 2 = s.cs.set jj 2 := List.set_set ..
          have fin : newP s.size s.d q = true → ∀ G, Same H2 G → ∀ kg, G A.tr = some (.dT kg) → DN kg s.d.under → Mid2 [some (.ref A.p), some (.ref A.st), some (.ref A.t), some (.ref A.ls), some (.ref a), some (.bl kp), some (.ref A.tr), some (.ref A.ho), some (.int (jj : Int)), some (.int (jj : Int)), none] (upd (upd G A.tr (.dT (putK kg (keyI q) (.int (jj : Int))))) A.ho (.lst (((s.cs.set jj 1).set jj 2).map V.int))) := fun hnew G sG kg tG kG => by
            have pG := (p2.same sG).addP (q := q) (jj := jj) tG kG
            have nG : ∀ c ∈ [A.tr, A.ho], NTup (G c) := (p2.same sG).nt fun c hc => .inr (.inl (by revert hc; simp; rintro (rfl | rfl) <;> simp))
            have fG : FrS [A.tr, A.ho] G (upd (upd G A.tr (.dT (putK kg (keyI q) (.int (jj : Int))))) A.ho (.lst (((s.cs.set jj 1).set jj 2).map V.int))) := ((FrS.same (Same.refl _)).upd _ (by simp)).upd _ (by simp)
            rw [hMid2, hnew, if_pos rfl, if_pos rfl, hu]
            refine ⟨rfl, ?_, (TupS.same sG).trans (TupS.frS fG nG)⟩
            have pG := pG
            rw [show ({ s with cs := s.cs.set jj 1 } : SD).cs.set jj 2 = (s.cs.set jj 1).set jj 2 from rfl] at pG
            rw [← hset]
            exact pG
          walk_at "GO"
          refine w_iteD (fun hle => ?_) (fun hgt => ?_)
          · have hnew : newP s.size s.d q = true := by
              unfold newP aheadP
              rw [hu, decide_eq_true (List.length_eq_zero_iff.mp (by rw [List.length_take]; omega))]
              rfl
            walk_at "GO"
            refine ⟨A.tr, _, rfl, DPut.t t2 hak2 (by rw [sizeLine_eq]; omega), ?_⟩
            have ho3 := (upd_ne (o := .dT (putK kt2 (keyI q) (.int (jj : Int)))) hth).trans hho2
            walk_at "GO"
            refine w_setI ho3 (by omega) (by rw [List.length_set]; omega) ?_
            rw [Int.toNat_natCast]
            exact fin hnew H2 (Same.refl _) kt2 t2 k2
          · have hcut : cutV ((natI q).map V.int) none (some (0 - (s.size : Int))) = (natI (aheadP s.size q)).map V.int := by
              rw [cutV_negN (by omega) (by rw [List.length_map, natI_len]; omega), List.length_map, natI_len]
              unfold aheadP natI
              rw [← List.map_take, ← List.map_take]
            walk_at "GO"
            refine w_din ?_
            walk_at "GO"
            refine w_slTq (b := false) (ys := (natI (aheadP s.size q)).map V.int) (show Tq false K H2 a _ from ha2) hcut fun p1 H3 s3 h3 => ?_
            have h3 : H3 p1 = some (.tup ((natI (aheadP s.size q)).map V.int)) := h3
            rw [← keyI_V] at h3
            have st3 := s3 _ _ hst2
            walk_at "GO"
            refine ⟨A.tr, _, rfl, DGet.t (s3 _ _ t2) h3, ?_⟩
            rw [k2.val]
            have hau : ({ s with cs := s.cs.set jj 1 } : SD).d.under (aheadP s.size q) = s.d.under (aheadP s.size q) := rfl
            rw [hau]
            have hne : aheadP s.size q ≠ [] := fun z => by
              have := congrArg List.length z
              unfold aheadP at this
              rw [List.length_take] at this
              simp only [List.length_nil] at this
              omega
            cases ha0 : s.d.under (aheadP s.size q) with
            | none =>
              have hnew : newP s.size s.d q = false := by
                unfold newP
                rw [hu, ha0, decide_eq_false hne]
                rfl
              rw [show (Option.map natV none).isSome = false from rfl]
              walk_at "GO"
              rw [hMid2, hnew, if_neg (by decide), if_neg (by decide), hu]
              exact ⟨rfl, p2.same s3, TupS.same s3⟩
            | some b0 =>
              have hnew : newP s.size s.d q = true := by
                unfold newP
                rw [hu, ha0, decide_eq_false hne]
                rfl
              rw [show (Option.map natV (some b0)).isSome = true from rfl]
              have t3 := s3 _ _ t2
              have hak3 := s3 _ _ hak2
              walk_at "GO"
              refine ⟨A.tr, _, rfl, DPut.t t3 hak3 (by rw [sizeLine_eq]; omega), ?_⟩
              have ho3 := (upd_ne (o := .dT (putK kt2 (keyI q) (.int (jj : Int)))) hth).trans (s3 _ _ hho2)
              walk_at "GO"
              refine w_setI ho3 (by omega) (by rw [List.length_set]; omega) ?_
              rw [Int.toNat_natCast]
              exact fin hnew H3 s3 kt2 t3 k2
      · rw [hMid2]
        clear hMid2
        rintro σ H3 ⟨rfl, p3, tu23⟩
        have tu3 := tu2.trans tu23
        have ha3 := tu3 _ _ ha
        obtain ⟨D, hD⟩ : ∃ D, D = if newP s.size s.d q = true then s.d.add q jj else s.d := ⟨_, rfl⟩
        obtain ⟨cs2, hcs2⟩ : ∃ cs2, cs2 = if newP s.size s.d q = true then s.cs.set jj 2 else s.cs.set jj 1 := ⟨_, rfl⟩
        have hok : ∃ d2, TreeOk s.size d2 ∧ d2.under = D.under := by
          rw [hD]
          by_cases hn : newP s.size s.d q = true
          · rw [if_pos hn]; exact ⟨_, j.tok.add hql hn, rfl⟩
          · rw [if_neg hn]; exact ⟨s.d, j.tok, rfl⟩
        have hput : s.d.put s.size q jj = D.use (begD s.size D.under q) := by
          rw [hD]
          by_cases hn : newP s.size s.d q = true
          · rw [if_pos hn, put_new hn]
          · rw [if_neg hn, put_old hn]
        have hpc : putC s.size s.d (s.cs.set jj 1) q jj = cs2 := by
          rw [hcs2]
          unfold putC
          by_cases hn : newP s.size s.d q = true
          · rw [if_pos hn, if_pos hn, nthS hjl, if_pos rfl, List.set_set]; rfl
          · rw [if_neg hn, if_neg hn]
        have hdue : (((s.d.put s.size q jj).under q).getD jj) = (s.d.under q).getD jj := by
          by_cases hn : newP s.size s.d q = true
          · rw [put_new hn, newP_none hn]
            show ((if q = q then some jj else s.d.under q : Option Nat)).getD jj = jj
            rw [if_pos rfl]; rfl
          · rw [put_old hn]; rfl
        rw [← hD, ← hcs2] at p3
        walk_at "GO"
        refine ⟨A, _, a, q, rfl, p3.law, hok, by show s.size ≤ 8; omega, ha3, by omega, by show s.N ≤ 100000; omega, fun H4 f4 hL4 => ?_⟩
        have p4 : JP K T.c_Tree T.c_Store H4 A { s with N := s.N + q.length, d := s.d.put s.size q jj, cs := cs2 } { s with cs := s.cs.set jj 1, kv := kv1 } := by
          rw [hput]
          exact p3.lawS f4 (by simp) hL4
        have n4 : ∀ c ∈ [A.us, A.cl], NTup (H3 c) := p3.nt fun c hc => .inr (.inl (by revert hc; simp; rintro (rfl | rfl) <;> simp))
        have ha4 := f4.at (tup_not n4 ha3) ha3
        have hSa4 : Sq false K H4 a ((natI q).map V.int) := Sq.tup ha4
        clear hL2 ha3 hg2 hak2 t2 hst2 ha2
        have tu24 := tu23.trans (TupS.frS f4 n4)
        walk_at "GO"
        rename_i h H5 hh s5 e5
        have fr := p4.fresh hh
        have T5 := (p4.tree.more hh).same s5
        have p5 := p4.same s5
        obtain ⟨dt, ap, pvs0, ku, kd, t0, _⟩ := id p5.tree
        unfold TreeF at t0
        have cT := T.C_Tree
        have ha5 := s5 _ _ ha4
        clear hSa4
        walk_at "GO"
        rename_i l2 H6 hl2 s6 e6
        have p6 := p5.same s6
        have T6 := T5.same s6
        refine ⟨A.p, 2, rfl, p6.pool, by omega, fun r H7 r0 r1 f7 hP7 => ?_⟩
        have p7 := p6.draw f7 hP7
        have n6 : ∀ c ∈ [A.p], NTup (H6 c) := fun c hc => by rw [List.mem_singleton.mp hc]; exact p6.pool.nt
        have dT := p6.dPT
        simp only [Adr.sT, List.mem_cons, List.not_mem_nil, or_false, not_or] at dT
        have T7 := T6.frS (S := [A.p]) (FrS.of f7 (by simp)) n6 (by simp [Ne.symm dT.1]) (by simp [Ne.symm dT.2.1]) (by simp [Ne.symm dT.2.2]) (fun c hc => by rw [List.mem_singleton.mp hc]; simp)
        have e7 := f7 _ _ (p5.pool.ne hl2) e6
        have h7 := f7 _ _ fr.1 (s6 _ _ e5)
        have a7 := (TupS.fr f7 p6.pool.nt) _ _ (s6 _ _ ha5)
        obtain ⟨c, bb, hat, hTq⟩ : ∃ (c : Addr) (bb : Bool), atI [V.ref h, V.ref a] r = some (V.ref c) ∧ Tq bb K H7 c ((natI q).map V.int) := by
          obtain rfl | rfl : r = 0 ∨ r = 1 := by omega
          · exact ⟨h, true, rfl, Sq.lst h7⟩
          · exact ⟨a, false, rfl, a7⟩
        have hh1 : heldD (s.cs.set jj 1) (some (jj : Int)) = some jj := heldD_of (by rw [List.length_set]; exact hjl) (by rw [nthS hjl, if_pos rfl]; decide)
        have ok8 : SOk s.size cs2 kv1 := by
          rw [← hpc]
          unfold putC
          split
          · exact ok2.hold (by rw [List.length_set]; exact hjl)
          · exact ok2
        clear t0 e6 e5 ha5 ha4
        walk_at "GO"
        refine w_ix (Sq.lst e7) hat ?_
        walk_at "GO"
        refine ⟨h :: A.X, A.t, A.st, A.au, A.ad, A.ac, A.ak, c, bb, s.d, s.size, s.cs.set jj 1, kv1, q, jj, n, rfl, T7, p7.store, ok2, j.tok, hTq, hql, by omega, by omega, hh1, by simp, by simp, fun x hx => ?_, fun H8 f8 T8 I8 => ?_⟩
        · rcases List.mem_cons.mp hx with rfl | hx
          · exact ⟨_, h7⟩
          · exact p7.allocd x hx
        rw [hpc] at I8
        rw [hdue]
        have p8 := p7.partS (s' := { s with d := s.d.put s.size q jj, cs := cs2, kv := kv1 }) f8 (by
          simp only [List.mem_cons, List.not_mem_nil, or_false]
          rintro c (rfl | rfl | rfl | rfl | rfl) <;> simp) T8.less I8
        have h8 := f8.at (b := h) (by
          obtain ⟨_, _, q2, q3⟩ := fr
          simp only [Adr.sT, Adr.sS, List.mem_cons, List.not_mem_nil, or_false, not_or] at q2 q3 ⊢
          exact ⟨q2.1, q2.2.1, q2.2.2, q3.2.1, q3.2.2⟩) h7
        walk_at "GO"
        refine ⟨_, _, rfl, SmB.int, ?_⟩
        walk_at "GO"
        refine w_bm0 ?_
        walk_at "GO"
        refine ⟨h, _, rfl, rfl, h8, ?_⟩
        have p9 := p8.other (o := .lst []) T8 h8 fr
        have tu9 : TupS H2 (upd H8 h (.lst [])) := (((((tu24.trans (TupS.same s5)).trans (TupS.same s6)).trans (TupS.fr f7 p6.pool.nt)).trans (TupS.frS f8 (p7.nt (by
          simp only [List.mem_cons, List.not_mem_nil, or_false]
          rintro c (rfl | rfl | rfl | rfl | rfl) <;> simp)))).trans (fun x xs e => (upd_ne (fun z => by rw [z, h8] at e; cases e)).trans e))
        generalize upd H8 h (.lst []) = H9 at p9 tu9 ⊢
        have hst9 : H9 A.ls = some (.dK (StF s.size s.many s.letters A.tr A.us A.ho A.cl A.mi)) := p9.law.st
        have hmi9 : H9 A.mi = some (.lst ((natI s.mine).map V.int)) := p9.law.mine
        have h2l : cs2.length = s.cs.length := by rw [hcs2]; split <;> rw [List.length_set]
        have hq1 : 1 ≤ q.length := by rw [hql, Nat.add_mul, Nat.one_mul]; omega
        have hcnt : ∀ b : Nat, b < s.cs.length → nth cs2 ((b : Nat) : Int) = (treeCnt (s.d.put s.size q jj) b : Int) + (s.mine.count b : Int) + if jj = b then 1 else 0 := fun b hb => by
          have c0 := j.cnt b hb
          rw [treeCnt_put j.tok, hcs2]
          by_cases hn : newP s.size s.d q = true
          · simp only [hn, if_true, true_and]
            rw [nthS hjl]
            by_cases e : jj = b
            · subst e
              rw [if_pos rfl, if_pos rfl, if_pos rfl]
              rw [hj0] at c0
              omega
            · rw [if_neg (Ne.symm e), if_neg e, if_neg e, c0]
              omega
          · rw [if_neg hn, if_neg (fun z => hn z.1), nthS hjl]
            by_cases e : jj = b
            · subst e
              rw [if_pos rfl, if_pos rfl]
              rw [hj0] at c0
              omega
            · rw [if_neg (Ne.symm e), if_neg e, c0]
              omega
        have hpl := put_len s.size s.d q jj
        have hjk : jj < s.kv.length := by rw [j.sok.len]; exact hjl
        have htc : treeCnt s.d jj = 0 := by
          have c0 := j.cnt jj hjl
          rw [hj0] at c0
          omega
        have hnjj : ∀ p, s.d.under p ≠ some jj := fun p e => by
          have hm : p ∈ s.d.paths.filter fun p => s.d.under p == some jj := List.mem_filter.mpr ⟨(j.tok.dom p).mp (by rw [e]; rfl), by rw [e]; simp⟩
          have := List.length_pos_of_mem hm
          unfold treeCnt at htc
          omega
        have hundq : ∀ p b, (s.d.put s.size q jj).under p = some b → s.d.under p = some b ∨ (newP s.size s.d q = true ∧ p = q ∧ b = jj) := fun p b e => by
          by_cases hn : newP s.size s.d q = true
          · rw [put_new hn] at e
            have e : (if p = q then some jj else s.d.under p) = some b := e
            by_cases hpq : p = q
            · rw [if_pos hpq] at e
              exact .inr ⟨hn, hpq, (Option.some.inj e).symm⟩
            · rw [if_neg hpq] at e
              exact .inl e
          · rw [put_old hn] at e
            exact .inl e
        have hrows : ∀ (kv3 : List (List V)) (cs3 : List Int) (m3 : List Nat) (N3 : Nat) (H' : Hp), TupS H2 H' → (∀ b, b ≠ jj → kv3[b]? = s.kv[b]?) → (newP s.size s.d q = true → kv3[jj]? = some ws) → RowsAt H s → RowsAt H' { s with N := N3, d := s.d.put s.size q jj, cs := cs3, kv := kv3, mine := m3 } := fun kv3 cs3 m3 N3 H' t hk hk2 hr =>
          hr.put (tu2.trans t) rfl rfl hnjj (fun p b e => (hundq p b e).imp id fun z => ⟨z.2.1, z.2.2, hk2 z.1⟩) hk hwl fun k v e => (hwr k v e).tups t
        have hk1 : ∀ b, b ≠ jj → kv1[b]? = s.kv[b]? := fun b hb => by rw [hkv1, List.getElem?_set_ne (Ne.symm hb)]
        have hk2 : kv1[jj]? = some ws := by rw [hkv1, List.getElem?_set_self hjk]
        cases kp with
        | true =>
          have hfew := j.few
          have nmi : ∀ c ∈ [A.ls, A.tr, A.us, A.ho, A.cl], c ≠ A.mi := fun c hc z => by
            obtain ⟨kt9, q1, _⟩ := p9.law.tree
            obtain ⟨ku9, U9, q2, _⟩ := p9.law.used
            simp only [List.mem_cons, List.not_mem_nil, or_false] at hc
            rcases hc with rfl | rfl | rfl | rfl | rfl
            · rw [z, hmi9] at hst9; cases hst9
            · rw [z, hmi9] at q1; cases q1
            · rw [z, hmi9] at q2; cases q2
            · exact p9.law.n3 z
            · exact p9.law.n4 z
          have L10 : LT (upd H9 A.mi (.lst ((natI (s.mine ++ [jj])).map V.int))) A { s with N := s.N + q.length, d := s.d.put s.size q jj, cs := cs2, mine := s.mine ++ [jj] } := by
            obtain ⟨kt9, q1, q2⟩ := p9.law.tree
            obtain ⟨ku9, U9, q3, q4, q5, q6⟩ := p9.law.used
            obtain ⟨lc, q7, q8⟩ := p9.law.clock
            exact ⟨(upd_ne (nmi _ (by simp))).trans hst9, ⟨kt9, (upd_ne (nmi _ (by simp))).trans q1, q2⟩, ⟨ku9, U9, (upd_ne (nmi _ (by simp))).trans q3, q4, q5, q6⟩, (upd_ne (nmi _ (by simp))).trans p9.law.hold, ⟨lc, (upd_ne (nmi _ (by simp))).trans q7, q8⟩, upd_same, p9.law.n1, p9.law.n2, p9.law.n3, p9.law.n4⟩
          have p10 := p9.lawS (S := [A.mi]) ((FrS.same (Same.refl _)).upd _ (by simp)) (by simp) L10
          walk_at "GO"
          refine w_append hmi9 (line_of (by rw [List.length_map, natI_len]; omega)) ?_
          rw [natI_snoc]
          walk_at "GO"
          exact k _ _ (j.done (cs3 := cs2) (kv3 := kv1) (mine' := s.mine ++ [jj]) (N' := s.N + q.length) hql hq80 hjl h2l (fun b hb => by
            rw [hcnt b hb, List.count_append, List.count_singleton]
            by_cases e : jj = b
            · rw [if_pos e, e]; simp; omega
            · rw [if_neg e]; simp [e]) (fun b hb => (List.mem_append.mp hb).elim (j.minb b) fun z => by rw [List.mem_singleton.mp z]; exact hjl) ok8 (by rw [List.length_append]; show s.mine.length + 1 ≤ _; omega) p10) ⟨rfl, rfl, rfl, by show s.N + q.length ≤ s.N + 100; omega, hpl, ⟨jj, rfl, fun _ => htc⟩, h2l, .inr ⟨jj, rfl⟩⟩ (fun z => nomatch z) (hrows _ _ _ _ _ (tu9.trans (TupS.frS (S := [A.mi]) ((FrS.same (Same.refl _)).upd _ (by simp)) (fun c hc => by rw [List.mem_singleton.mp hc]; exact NTup.lst hmi9))) hk1 fun _ => hk2)
        | false =>
          obtain ⟨dy, g9, _⟩ := id p9.store
          unfold StoreF at g9
          have cS := T.C_Store
          have h2n : nth cs2 ((jj : Nat) : Int) ≠ 0 := by
            have c0 := hcnt jj hjl
            rw [if_pos rfl] at c0
            omega
          have hh2 : heldD cs2 (some (jj : Int)) = some jj := heldD_of (by omega) h2n
          walk_at "GO"
          refine ⟨A.st, A.ac, A.ak, s.size, .int (jj : Int), some (jj : Int), cs2, kv1, rfl, p9.store, ok8, rfl, fun b hb H10 f10 I10 => ?_, fun z => by rw [hh2] at z; cases z⟩
          rw [hh2] at hb
          cases hb
          have p10 := p9.storeS (S := [A.ac, A.ak]) (s' := { s with d := s.d.put s.size q jj, cs := cs2.set jj (nth cs2 ((jj : Nat) : Int) - 1), kv := relK cs2 kv1 jj }) (FrS.of2 f10 (by simp) (by simp)) (fun _ h => h) rfl I10
          clear g9
          walk_at "GO"
          refine ⟨A, _, jj, rfl, p10.law, by show jj < cs2.length; omega, fun H11 f11 L11 => ?_⟩
          have p11 := p10.lawS f11 (by simp) L11
          have tu11 : TupS H2 H11 := (tu9.trans (TupS.frS (S := [A.ac, A.ak]) (FrS.of2 f10 (by simp) (by simp)) (p9.nt (by
            simp only [List.mem_cons, List.not_mem_nil, or_false]
            rintro c (rfl | rfl) <;> simp)))).trans (TupS.frS f11 (p10.nt (by
            simp only [List.mem_cons, List.not_mem_nil, or_false]
            rintro c rfl
            simp)))
          have hk3 : ∀ b, b ≠ jj → (relK cs2 kv1 jj)[b]? = s.kv[b]? := fun b hb => by
            unfold relK
            split
            · rw [List.getElem?_set_ne (Ne.symm hb)]; exact hk1 b hb
            · exact hk1 b hb
          have hk4 : newP s.size s.d q = true → (relK cs2 kv1 jj)[jj]? = some ws := fun hn => by
            unfold relK
            rw [if_neg]
            · exact hk2
            · have c0 := hcnt jj hjl
              rw [treeCnt_put j.tok, if_pos ⟨hn, rfl⟩, if_pos rfl] at c0
              omega
          walk_at "GO"
          have hfew := j.few
          exact k _ _ (j.done (cs3 := cs2.set jj (nth cs2 ((jj : Nat) : Int) - 1)) (kv3 := relK cs2 kv1 jj) (mine' := s.mine) (N' := s.N + q.length) hql hq80 hjl (by rw [List.length_set]; exact h2l) (fun b hb => by
            rw [nthS (by omega)]
            have c0 := hcnt b hb
            by_cases e : b = jj
            · subst e
              rw [if_pos rfl] at c0 ⊢
              omega
            · rw [if_neg (Ne.symm e)] at c0
              rw [if_neg e]
              omega) j.minb (ok8.release (by omega) h2n) (by omega) p11) ⟨rfl, rfl, rfl, by show s.N + q.length ≤ s.N + 100; omega, hpl, ⟨jj, rfl, fun _ => htc⟩, (List.length_set ..).trans h2l, .inl rfl⟩ (fun _ => rfl) (hrows _ _ _ _ _ tu11 hk3 hk4)

/-! ### the law's own dropping and holding -/
theorem treeCnt_del {size : Nat} {d : TreeD} (ok : TreeOk size d) {x : Path} (hx : x ∈ d.paths) (b : Nat) : treeCnt d b = treeCnt (d.del x) b + if d.under x = some b then 1 else 0 := by
  have hp : d.paths.Perm (x :: (d.del x).paths) := by
    have hn : (x :: (d.del x).paths).Nodup := List.nodup_cons.mpr ⟨fun m => (by have := (List.mem_filter.mp m).2; simp at this), ok.nod.filter _⟩
    refine nodup_perm ok.nod hn fun p => ?_
    rw [List.mem_cons]
    show _ ↔ p = x ∨ p ∈ d.paths.filter _
    rw [List.mem_filter, decide_eq_true_eq]
    by_cases e : p = x
    · rw [e]; exact ⟨fun _ => .inl rfl, fun _ => hx⟩
    · exact ⟨fun m => .inr ⟨m, e⟩, fun z => (z.resolve_left e).1⟩
  unfold treeCnt
  rw [(hp.filter _).length_eq, List.filter_cons]
  have e : (d.del x).paths.filter (fun p => d.under p == some b) = (d.del x).paths.filter (fun p => (d.del x).under p == some b) := List.filter_congr fun p m => by
    have h : p ≠ x := by simpa using (List.mem_filter.mp m).2
    show _ = ((if p = x then none else d.under p) == some b)
    rw [if_neg h]
  by_cases h : d.under x = some b
  · rw [if_pos (by simp [h]), if_pos h, List.length_cons, e]
  · rw [if_neg (by simp [h]), if_neg h, e]; rfl
theorem treeCnt_pos {size : Nat} {d : TreeD} (ok : TreeOk size d) {x : Path} {b : Nat} (h : d.under x = some b) : 1 ≤ treeCnt d b := by
  have hx : x ∈ d.paths := (ok.dom x).mp (by rw [h]; rfl)
  have := treeCnt_del ok hx b
  rw [if_pos h] at this
  omega
theorem LT.delP {H : Hp} {A : Adr} {s : SD} (h : LT H A s) (x : Path) {kt : List (List Key × V)} (t1 : H A.tr = some (.dT kt)) (t2 : DN kt s.d.under) : LT (upd H A.tr (.dT (dropK kt (keyI x)))) A { s with d := s.d.del x } := by
  have hst := h.st
  have hho := h.hold
  have hmi := h.mine
  obtain ⟨ku, U, u1, u2, u3, u4⟩ := h.used
  obtain ⟨lc, c1, c2⟩ := h.clock
  refine ⟨(upd_ne fun z => by rw [z, t1] at hst; cases hst).trans hst, ⟨_, upd_same, t2.del x⟩, ⟨ku, U, (upd_ne (Ne.symm h.n1)).trans u1, u2, fun p c hp => ?_, u4⟩, (upd_ne fun z => by rw [z, t1] at hho; cases hho).trans hho, ⟨lc, (upd_ne fun z => by rw [z, t1] at c1; cases c1).trans c1, c2⟩, (upd_ne fun z => by rw [z, t1] at hmi; cases hmi).trans hmi, h.n1, h.n2, h.n3, h.n4⟩
  have hp : (if p = x then none else s.d.used p) = some c := hp
  by_cases e : p = x
  · rw [if_pos e] at hp; cases hp
  · rw [if_neg e] at hp; exact u3 p c hp
theorem same_unlock {H H' : Hp} {d : Addr} {u f : HO} (hd : H d = some u) (s : Same (upd H d f) H') : Same H (upd H' d u) := fun c o e => by
  by_cases h : c = d
  · subst h
    rw [hd] at e
    cases e
    exact upd_same
  · rw [upd_ne h]
    exact s c o (by rw [upd_ne h]; exact e)
theorem w_lock {t : TS} {D : Ends} {σ : L2.St} {H : Hp} {d : Addr} {u : HO} (h : H d = some u) (mu : Mut (some u)) (q : ∀ od, t ⟨fun σ' H' => H' d = some (.frz od u) ∧ D.nx σ' (upd H' d u), fun v H' => H' d = some (.frz od u) ∧ D.rt v (upd H' d u), fun σ' H' => H' d = some (.frz od u) ∧ D.bk σ' (upd H' d u), fun σ' H' => H' d = some (.frz od u) ∧ D.ct σ' (upd H' d u)⟩ σ (upd H d (.frz od u))) : tLock t D σ H := ⟨d, u, h, mu, q⟩
def RBest (H : Hp) (v : V) : Option Path → Prop
  | none => v = .non
  | some p => RKey H v p
theorem LT.setMine {H : Hp} {A : Adr} {s : SD} (h : LT H A s) (m : List Nat) : LT (upd H A.mi (.lst ((natI m).map V.int))) A { s with mine := m } := by
  have hst := h.st
  have hmi := h.mine
  obtain ⟨kt9, q1, q2⟩ := h.tree
  obtain ⟨ku9, U9, q3, q4, q5, q6⟩ := h.used
  obtain ⟨lc, q7, q8⟩ := h.clock
  exact ⟨(upd_ne (fun z => by rw [z, hmi] at hst; cases hst)).trans hst, ⟨kt9, (upd_ne (fun z => by rw [z, hmi] at q1; cases q1)).trans q1, q2⟩, ⟨ku9, U9, (upd_ne (fun z => by rw [z, hmi] at q3; cases q3)).trans q3, q4, q5, q6⟩, (upd_ne h.n3).trans h.hold, ⟨lc, (upd_ne h.n4).trans q7, q8⟩, upd_same, h.n1, h.n2, h.n3, h.n4⟩
theorem LT.setCs {H : Hp} {A : Adr} {s : SD} (h : LT H A s) (cs' : List Int) : LT (upd H A.ho (.lst (cs'.map V.int))) A { s with cs := cs' } := by
  have hst := h.st
  have hho := h.hold
  obtain ⟨kt9, q1, q2⟩ := h.tree
  obtain ⟨ku9, U9, q3, q4, q5, q6⟩ := h.used
  obtain ⟨lc, q7, q8⟩ := h.clock
  exact ⟨(upd_ne (fun z => by rw [z, hho] at hst; cases hst)).trans hst, ⟨kt9, (upd_ne (fun z => by rw [z, hho] at q1; cases q1)).trans q1, q2⟩, ⟨ku9, U9, (upd_ne (fun z => by rw [z, hho] at q3; cases q3)).trans q3, q4, q5, q6⟩, upd_same, ⟨lc, (upd_ne (Ne.symm h.n2)).trans q7, q8⟩, (upd_ne (Ne.symm h.n3)).trans h.mine, h.n1, h.n2, h.n3, h.n4⟩
theorem LT.setKv {H : Hp} {A : Adr} {s : SD} (h : LT H A s) (kv : List (List V)) : LT H A { s with kv := kv } := ⟨h.st, h.tree, h.used, h.hold, h.clock, h.mine, h.n1, h.n2, h.n3, h.n4⟩
/-- both parts together again -/
theorem JP.jl {K : PySem.W.Frag} {C CS : Addr} {H : Hp} {A : Adr} {s' : SD} (p : JP K C CS H A s' s') (sok : SOk s'.size s'.cs s'.kv) (tok : TreeOk s'.size s'.d) (many : s'.cs.length = s'.many) (lets : 1 ≤ s'.letters ∧ s'.letters ≤ 12) (und : ∀ p b, s'.d.under p = some b → b < s'.cs.length)
    (cnt : ∀ b : Nat, b < s'.cs.length → nth s'.cs ((b : Nat) : Int) = (treeCnt s'.d b : Int) + (s'.mine.count b : Int)) (minb : ∀ b ∈ s'.mine, b < s'.cs.length) (long : ∀ p ∈ s'.d.paths, p.length ≤ 80) (few : s'.mine.length ≤ s'.N) : JL K C CS H A s' :=
  ⟨p.pool, p.law, p.tree, p.store, sok, tok, p.dPL, p.dPT, p.dPS, p.dLT, p.dLS, p.dTS, many, lets, und, cnt, minb, long, few⟩
theorem erase_map {α β : Type} (f : α → β) : ∀ (l : List α) (j : Nat), (l.map f).eraseIdx j = (l.eraseIdx j).map f
  | [], j => by simp
  | a :: r, 0 => by simp
  | a :: r, j + 1 => by
    have ih := erase_map f r j
    simp [ih]
theorem count_erase : ∀ {l : List Nat} {i : Nat} (h : i < l.length) (b : Nat), l.count b = (l.eraseIdx i).count b + if l[i] = b then 1 else 0
  | a :: r, 0, _, b => by
    show (a :: r).count b = r.count b + if a = b then 1 else 0
    rw [List.count_cons]
    by_cases e : a = b <;> simp [e]
  | a :: r, i + 1, h, b => by
    have ih := count_erase (l := r) (i := i) (by simpa using h) b
    show (a :: r).count b = (a :: r.eraseIdx i).count b + if r[i]'(by simpa using h) = b then 1 else 0
    rw [List.count_cons, List.count_cons, ih]
    omega
def sp_L_dropped (K : PySem.W.Frag) : Sp := fun vs H Q _ => ∃ (A : Adr) (s : SD), vs = [.ref A.ls] ∧ LT H A s ∧ TreeOk s.size s.d ∧ (∀ p b, s.d.under p = some b → b < s.cs.length) ∧ (∀ p ∈ s.d.paths, p.length ≤ 1000) ∧ s.d.paths.length ≤ 1000 ∧
  (dropP s.size s.d s.cs = none → ∀ H', Same H H' → Q (.bl false) H') ∧ (∀ x b, dropP s.size s.d s.cs = some x → s.d.under x = some b → ∀ H', FrS [A.tr, A.ho] H H' → LT H' A { s with d := s.d.del x, cs := s.cs.set b (nth s.cs ((b : Nat) : Int) - 1) } → Q (.bl true) H')
theorem ok_L_dropped (T : Txt K mg) : FnOk P w K mg base CX0 2 T.a_L_dropped T.d_L_dropped ["_law_state"] (sp_L_dropped K) := by
  refine T.F_L_dropped.ok sc_L_dropped (fun vs H Q E h => ?_) (fun cdv A outer s H vs Q E hr h => ?_)
  · obtain ⟨_, _, rfl, _⟩ := h
    rfl
  · obtain ⟨A, s, rfl, hL, ok, hun, hpl, hpz, k1, k2⟩ := h
    have hst := hL.st
    have hho := hL.hold
    obtain ⟨kt, t1, t2⟩ := hL.tree
    obtain ⟨ku, U, v1, v2, v3, v4⟩ := hL.used
    have hlk : kt.length ≤ s.d.paths.length := t2.len fun p hp => (ok.dom p).mp hp
    refine ⟨_, (pss_cons (ps_set (i := 1) sc_L_dropped.nd rfl (Or.inl rfl) (pe_dget (u1 hr.units) (pv 0) pe_str (fun _ _ => rfl)))
      (pss_cons (ps_set (i := 2) sc_L_dropped.nd rfl (Or.inl rfl) (pe_dget (u1 hr.units) (pv 0) pe_str (fun _ _ => rfl)))
      (pss_cons (ps_set (i := 3) sc_L_dropped.nd rfl (Or.inl rfl) pe_non)
      (pss_cons (ps_for PassesOwn.never rfl (k_seqS (K := K) rfl (pe_callB (cr_sortedD rfl) (by rfl) T.z_sorted (by decide +kernel) (pa_cons (pv 1) pa_nil))) (pg_name (i := 4) sc_L_dropped.nd rfl (Or.inr rfl))
      (pss_cons (ps_lock (ps_setLc (i := 5) (own := [("_law_other", 6)]) (g := gName 6) rfl sc_L_dropped.nd rfl rfl (sw_true rfl rfl rfl (by decide +kernel)) (pi_keys (pv 1)) (blkOk_by (own := [("_law_other", 6)]) (by kernel_rfl)) (fun _ _ _ _ _ => (pg_name (i := 6) sc_L_dropped.nd rfl (by first | exact Or.inl rfl | exact Or.inr rfl))) (fun _ _ _ _ _ => pts_one (PW.pt (pw_and (pt_cmpR op_gt (pe_callB (k_lenS (K := K) rfl) (by rfl) T.z_len (by decide +kernel) (pa_cons (pv 6) pa_nil)) (pe_callB (k_lenS (K := K) rfl) (by rfl) T.z_len (by decide +kernel) (pa_cons (pv 4) pa_nil)) (nomark _)) (pw_and1 (pt_cmpR (k_eqG (K := K) rfl hr.units) (pe_slice (k_slG (K := K) rfl) (pv 6) po_none (po_some (pe_callB (k_lenS (K := K) rfl) (by rfl) T.z_len (by decide +kernel) (pa_cons (pv 4) pa_nil)))) (pv 4) (nomark _)))))) (fun _ _ _ _ _ => (pv 6))))
      (pss_one (ps_if (PW.pt (pw_and (pt_cmpR (k_eqG (K := K) rfl hr.units) (pe_callB (k_lenS (K := K) rfl) (by rfl) T.z_len (by decide +kernel) (pa_cons (pv 5) pa_nil)) pe_int (nomark _)) (pw_and1 (pt_cmpR (k_eqG (K := K) rfl hr.units) (pe_ix (k_ix (K := K) rfl) (pe_dget (u1 hr.units) (pv 0) pe_str (fun _ _ => rfl)) (pe_dget (u1 hr.units) (pv 1) (pv 4) (fun _ _ => rfl)) (fun _ _ => rfl)) pe_int (nomark _))))) (pss_one (ps_if (PW.pt (pw_or (pt_cmpR op_isNN (pv 3) pe_non (nomark _)) (pw_or1 (pt_cmpR op_lt (pe_dget (u1 hr.units) (pv 2) (pv 4) (fun _ _ => rfl)) (pe_dget (u1 hr.units) (pv 2) (pv 3) (fun _ _ => rfl)) (nomark _))))) (pss_one (ps_set (i := 3) sc_L_dropped.nd rfl (Or.inl rfl) (pv 4))) pss_nil)) pss_nil))))
      (pss_cons (ps_if (pt_cmpR op_notNN (pv 3) pe_non (nomark _)) (pss_one (ps_expr (pe_call (ok_L_release T) (hr.mono (by decide)) (by rfl) T.g_L_release T.F_L_release.kp T.b_L_release .nil pass0 (pa_cons (pv 0) (pa_cons (k_bm (K := K) rfl PySem.F.plainAttrs_dict PySem.F.slot_dict_pop PySem.F.type_dict_pop (mt_popT1 (u1 hr.units)) (pv 1) (pa_cons (pv 3) pa_nil)) pa_nil))))) pss_nil)
      (pss_one (ps_ret (pe_cmpR op_notNN (pv 3) pe_non (nomark _))))))))), ?_⟩
    refine go_start (σ' := [some (.ref A.ls), none, none, none, none, none, none]) rfl ?_
    try dsimp only [cxOf, Cx.nox, Cx.wish]
    walk_at "GO"
    refine w_sortedDict t1 t2 ok.dom ok.asc ok.nod (treeOk_ne ok) fun l H1 ys hl s1 e1 r1 => ?_
    have hyl := r1.1
    walk_at "GO"
    refine l_seq (b := true) ys (fun i σ H' => ∃ (bv : V) (y4 y5 : Option V), σ = [some (.ref A.ls), some (.ref A.tr), some (.ref A.us), some bv, y4, y5, none] ∧ Same H1 H' ∧ RBest H' bv ((s.d.paths.take i).foldl (lawS s.size s.d s.cs) none)) (Sq.lst e1) ⟨.non, none, none, rfl, Same.refl _, rfl⟩ (fun i σ H' _ ⟨_, _, _, _, f, _⟩ => Sq.lst (f _ _ e1)) ?_ ?_
    · rintro i x σ H2 hi hxi ⟨bv, y4, y5, rfl, s2, hbv⟩
      obtain ⟨p, hp⟩ : ∃ p, s.d.paths[i]? = some p := ⟨_, List.getElem?_eq_getElem (by omega)⟩
      obtain ⟨q0, rfl, hq⟩ := r1.2 i x p hxi hp
      have hpm := List.mem_of_getElem? hp
      obtain ⟨b, hb⟩ := Option.isSome_iff_exists.mp ((ok.dom p).mpr hpm)
      obtain ⟨c, hc⟩ := Option.isSome_iff_exists.mp ((ok.udom p).mpr hpm)
      have hbl := hun p b hb
      have hp80 := hpl p hpm
      have s02 := s1.trans s2
      have t12 := s02 _ _ t1
      have hq2 := s2 _ _ hq
      have hnp := natI_len p
      walk_at "GO"
      refine w_lock t12 trivial fun od => ?_
      have hf : ∀ c o, H2 c = some o → c ≠ A.tr → upd H2 A.tr (.frz od (.dT kt)) c = some o := fun c o e n => by rw [upd_ne n]; exact e
      have fd : upd H2 A.tr (.frz od (.dT kt)) A.tr = some (.frz od (.dT kt)) := upd_same
      have fq := hf _ _ hq2 (fun z => by rw [z, t12] at hq2; cases hq2)
      have fall : ∀ G, Same (upd H2 A.tr (.frz od (.dT kt))) G → Same H2 (upd G A.tr (.dT kt)) := fun G sG => same_unlock t12 sG
      generalize upd H2 A.tr (.frz od (.dT kt)) = HF at hf fd fq fall ⊢
      have hSq : Sq false K HF q0 ((natI p).map V.int) := Sq.tup fq
      unfold iKeys
      walk_at "GO"
      refine ⟨A.tr, od, rfl, .inr ⟨kt, fd, ?_⟩⟩
      refine l_compG (walk_keysT (d := A.tr) (o := od) (kvs := kt)) (by rw [sizeLine_eq]; omega) (fun D i acc H' => Same HF H' ∧ (acc = [] ↔ ∀ q : Path, keyI q ∈ (kt.take i).map (·.1) → ¬ (p.length < q.length ∧ q.take p.length = p))) (fun D hD => ⟨Same.new hD, fun _ q m => (by simp at m), fun _ => rfl⟩) (fun D i acc H' st => st.1 _ _ fd) (fun i x H3 H4 D acc NT NF hi hD st e3 hal hy hTt hFf => ?_) (fun D H3 zs hD st e3 hzl => ?_)
      · obtain ⟨rfl, k, v, q1, hki, rfl, hq1⟩ := hy
        obtain ⟨s3, hac⟩ := st
        obtain ⟨q, rfl, hqs⟩ := t2.key k (List.mem_map.mpr ⟨(k, v), List.mem_of_getElem? hki, rfl⟩)
        have hql := hpl q ((ok.dom q).mp hqs)
        have hnq := natI_len q
        have hq1 : H4 q1 = some (.tup ((natI q).map V.int)) := by rw [← keyI_V]; exact hq1
        have hSq1 : Sq false K H4 q1 ((natI q).map V.int) := Sq.tup hq1
        have hSq4 : Sq false K H4 q0 ((natI p).map V.int) := Sq.tup (s3 _ _ fq)
        have hcut : cutV ((natI q).map V.int) none (some ((natI p).length : Int)) = (natI (q.take p.length)).map V.int := by
          rw [hnp, cutV_to _ (by omega), Int.toNat_natCast]
          unfold natI
          rw [← List.map_take]
        have yes : (p.length < q.length ∧ q.take p.length = p) → ∀ (y : V) (H5 : Hp), H5 D = some (.lst acc) → Same HF H5 → NT y H5 := fun hg y H5 e5 s5 => hTt y H5 e5 ⟨Same.mut s5 hD, fun z => absurd (congrArg List.length z) (by simp), fun z => absurd hg (z q (by
            rw [List.take_add_one, hki, List.map_append]
            exact List.mem_append.mpr (.inr (by simp))))⟩
        have no : ¬ (p.length < q.length ∧ q.take p.length = p) → ∀ (H5 : Hp), H5 D = some (.lst acc) → Same HF H5 → NF H5 := fun hg H5 e5 s5 => hFf H5 e5 ⟨s5, fun z q2 m => (by
            rw [List.take_add_one, hki, List.map_append] at m
            rcases List.mem_append.mp m with m | m
            · exact hac.mp z q2 m
            · have : keyI q2 = keyI q := by simpa using m
              rw [keyI_inj this]; exact hg), fun z => hac.mpr fun q2 m => z q2 (by
            rw [List.take_add_one, hki, List.map_append]
            exact List.mem_append.mpr (.inl m))⟩
        refine ⟨rfl, ?_⟩
        walk_at "GO"
        refine w_iteD (fun hlt => ?_) (fun hlt => ?_)
        · walk_at "GO"
          refine w_slTq (b := false) (ys := (natI (q.take p.length)).map V.int) (show Tq false K H4 q1 ((natI q).map V.int) from hq1) hcut fun q2 H5 s5 h5 => ?_
          have h5 : H5 q2 = some (.tup ((natI (q.take p.length)).map V.int)) := h5
          walk_at "GO"
          refine w_eqKey (p := q.take p.length) (q := p) ⟨q2, rfl, h5⟩ ⟨q0, rfl, s5 _ _ (s3 _ _ fq)⟩ ?_
          walk_at "GO"
          by_cases he : q.take p.length = p
          · rw [decide_eq_true he]
            show tVar 6 _ H5 NT
            walk_at "GO"
            exact yes ⟨by omega, he⟩ _ H5 (s5 _ _ e3) (s3.trans s5)
          · rw [decide_eq_false he]
            exact no (fun z => he z.2) H5 (s5 _ _ e3) (s3.trans s5)
        · exact no (fun z => hlt (by omega)) H4 e3 s3
      · obtain ⟨s3, hac⟩ := st
        have hgood : zs = [] ↔ p ∉ s.d.paths.map (aheadP s.size) := by
          rw [← longer_iff ok hpm, hac]
          refine ⟨fun z ⟨q, hq, hg⟩ => ?_, fun z q m hg => ?_⟩
          · refine z q ?_ hg
            rw [List.take_length]
            have hv := t2.val q
            obtain ⟨n, hn⟩ := Option.isSome_iff_exists.mp ((ok.dom q).mpr hq)
            rw [hn] at hv
            unfold valV at hv
            cases e : kt.find? fun kv => decide (kv.1 = keyI q) with
            | none => rw [e] at hv; cases hv
            | some kv =>
              have h1 := List.mem_of_find?_eq_some e
              have h2 := of_decide_eq_true (List.find?_some (p := fun kv : List Key × V => decide (kv.1 = keyI q)) e)
              exact List.mem_map.mpr ⟨kv, h1, h2⟩
          · rw [List.take_length] at m
            obtain ⟨q2, e2, hq2⟩ := t2.key _ m
            rw [keyI_inj e2] at hg
            exact z ⟨q2, (ok.dom q2).mp hq2, hg⟩
        have sU := fall H3 s3
        have eD : upd H3 A.tr (.dT kt) D = some (.lst zs) := by
          rw [upd_ne (fun z => by rw [z, fd] at hD; cases hD)]; exact e3
        have hD2 : H2 D = none := by
          cases hd : H2 D with
          | none => rfl
          | some o =>
            have := hf D o hd (fun z => by rw [z, fd] at hD; cases hD)
            rw [hD] at this; cases this
        walk_at "GO"
        refine ⟨s3 _ _ fd, ?_⟩
        try dsimp only
        generalize upd H3 A.tr (.dT kt) = H5 at sU eD ⊢
        have st5 := sU _ _ (s02 _ _ hst)
        have ho5 := sU _ _ (s02 _ _ hho)
        have t5 := sU _ _ t12
        have u5 := sU _ _ (s02 _ _ v1)
        have q5 := sU _ _ hq2
        have bv5 : RBest H5 bv ((s.d.paths.take i).foldl (lawS s.size s.d s.cs) none) := by
          cases h : (s.d.paths.take i).foldl (lawS s.size s.d s.cs) none with
          | none => rw [h] at hbv; exact hbv
          | some o => rw [h] at hbv; exact RKey.mono _ _ _ _ sU hbv
        have s15 := s2.trans sU
        have q5k := q5
        rw [← keyI_V] at q5k
        have gt := DGet.t t5 q5k
        rw [t2.val, hb] at gt
        have hSz : Sq true K H5 D zs := Sq.lst eD
        have hSh : Sq true K H5 A.ho (s.cs.map V.int) := Sq.lst ho5
        have hstep : (s.d.paths.take (i + 1)).foldl (lawS s.size s.d s.cs) none = lawS s.size s.d s.cs ((s.d.paths.take i).foldl (lawS s.size s.d s.cs) none) p := by
          rw [List.take_add_one, hp, List.foldl_append]; rfl
        rw [hstep]
        clear hst hho hf fd fq fall hSq e1 s02 t12 hq2 s3 hD e3 hbv
        walk_at "GO"
        have hbad : goodP s.size s.d s.cs p = false → lawS s.size s.d s.cs ((s.d.paths.take i).foldl (lawS s.size s.d s.cs) none) p = (s.d.paths.take i).foldl (lawS s.size s.d s.cs) none := fun h => by
          unfold lawS
          rw [if_neg (by rw [h]; decide)]
        have hyes : goodP s.size s.d s.cs p = true → lawS s.size s.d s.cs ((s.d.paths.take i).foldl (lawS s.size s.d s.cs) none) p = best1 s.d.used ((s.d.paths.take i).foldl (lawS s.size s.d s.cs) none) p := fun h => by
          unfold lawS
          rw [if_pos h]
        have hfm : ∀ o, (s.d.paths.take i).foldl (lawS s.size s.d s.cs) none = some o → o ∈ s.d.paths := fun o h => by
          rcases lawS_mem s.size s.d s.cs _ _ _ h with m | m
          · exact List.mem_of_mem_take m
          · cases m
        have hal : aloneP s.d s.cs p = decide (nth s.cs ((b : Nat) : Int) = 1) := by unfold aloneP; rw [hb]; rfl
        have bad : goodP s.size s.d s.cs p = false → ∃ (bv' : V) (y4 y5 : Option V), [some (V.ref A.ls), some (.ref A.tr), some (.ref A.us), some bv, some (V.ref q0), some (V.ref D), none] = [some (.ref A.ls), some (.ref A.tr), some (.ref A.us), some bv', y4, y5, none] ∧ Same H1 H5 ∧ RBest H5 bv' (lawS s.size s.d s.cs ((s.d.paths.take i).foldl (lawS s.size s.d s.cs) none) p) := fun h => ⟨bv, _, _, rfl, s15, by rw [hbad h]; exact bv5⟩
        refine w_iteD (fun hz => ?_) (fun hz => ?_)
        · have hpn := hgood.mp (List.length_eq_zero_iff.mp (by omega))
          walk_at "GO"
          refine ⟨A.tr, .int (b : Int), rfl, gt, ?_⟩
          walk_at "GO"
          refine w_iteD (fun h1 => ?_) (fun h1 => ?_)
          · have hgd : goodP s.size s.d s.cs p = true := by
              unfold goodP
              rw [hal, decide_eq_true hpn, decide_eq_true h1]; rfl
            rw [hyes hgd]
            cases ho : (s.d.paths.take i).foldl (lawS s.size s.d s.cs) none with
            | none =>
              rw [ho] at bv5
              obtain rfl : bv = .non := bv5
              walk_at "GO"
              exact ⟨.ref q0, _, _, rfl, s15, ⟨q0, rfl, q5⟩⟩
            | some o =>
              have hom := hfm o ho
              rw [ho] at bv5
              obtain ⟨oa, rfl, hoa⟩ := bv5
              obtain ⟨co, hco⟩ := Option.isSome_iff_exists.mp ((ok.udom o).mpr hom)
              obtain ⟨c1, hc1, hc1'⟩ := v3 p c hc
              obtain ⟨c2, hc2, hc2'⟩ := v3 o co hco
              have hoak := hoa
              rw [← keyI_V] at hoak
              have gu1 := DGet.t u5 q5k
              have gu2 := DGet.t u5 hoak
              rw [v2.val, hc1] at gu1
              rw [v2.val, hc2] at gu2
              have hb1 : best1 s.d.used (some o) p = some (if c < co then p else o) := by
                show some (oldS s.d.used o p) = _
                unfold oldS
                rw [hc, hco]; rfl
              rw [hb1]
              walk_at "GO"
              refine ⟨A.us, .int (c1 : Int), rfl, gu1, ?_⟩
              walk_at "GO"
              refine ⟨A.us, .int (c2 : Int), rfl, gu2, ?_⟩
              walk_at "GO"
              refine w_iteD (fun hlt => ?_) (fun hlt => ?_)
              · walk_at "GO"
                refine ⟨.ref q0, _, _, rfl, s15, ?_⟩
                rw [if_pos (show c < co by omega)]
                exact ⟨q0, rfl, q5⟩
              · walk_at "GO"
                refine ⟨.ref oa, _, _, rfl, s15, ?_⟩
                rw [if_neg (show ¬ c < co by omega)]
                exact ⟨oa, rfl, hoa⟩
          · walk_at "GO"
            exact bad (by unfold goodP; rw [hal, decide_eq_false h1, Bool.and_false])
        · walk_at "GO"
          refine bad ?_
          unfold goodP
          rw [decide_eq_false (fun h => hz (by rw [hgood.mpr h]; rfl)), Bool.false_and]
    · rintro σ H2 ⟨bv, y4, y5, rfl, s2, hbv⟩
      rw [hyl, List.take_length, dropP_law] at hbv
      have s02 := s1.trans s2
      have st2 := s02 _ _ hst
      have t12 := s02 _ _ t1
      cases hd : dropP s.size s.d s.cs with
      | none =>
        rw [hd] at hbv
        obtain rfl : bv = .non := hbv
        walk_at "GO"
        exact k1 hd H2 s02
      | some x =>
        rw [hd] at hbv
        obtain ⟨xa, rfl, hxa⟩ := hbv
        have hdm := goesP_mem (dropP_mem hd)
        obtain ⟨b, hb⟩ := Option.isSome_iff_exists.mp ((ok.dom x).mpr hdm.1)
        have hbl := hun x b hb
        have hxk := hxa
        rw [← keyI_V] at hxk
        walk_at "GO"
        refine ⟨.inr (.inr (.inl ⟨rfl, .inr ⟨_, t12⟩⟩)), ?_⟩
        walk_at "GO"
        refine ⟨A.tr, xa, kt, keyI x, .int (b : Int), rfl, rfl, t12, hxk, by rw [t2.val, hb]; rfl, ?_⟩
        have L2 := (hL.same s02).delP x t12 t2
        have F2 : FrS [A.tr, A.ho] H (upd H2 A.tr (.dT (dropK kt (keyI x)))) := (FrS.same s02).upd _ (by simp)
        generalize upd H2 A.tr (.dT (dropK kt (keyI x))) = H3 at L2 F2 ⊢
        walk_at "GO"
        refine ⟨A, _, b, rfl, L2, hbl, fun H4 f4 L4 => ?_⟩
        walk_at "GO"
        exact k2 x b hd hb H4 (F2.trans (f4.up (by simp))) L4


/-! ### a path dropped by both -/
def SD.del (s : SD) (x : Path) (b : Nat) : SD := { s with d := s.d.del x, cs := s.cs.set b (nth s.cs ((b : Nat) : Int) - 1), kv := relK s.cs s.kv b }
theorem del_under {d : TreeD} {x p : Path} {c : Nat} (h : (d.del x).under p = some c) : p ≠ x ∧ d.under p = some c := by
  have h : (if p = x then none else d.under p) = some c := h
  by_cases e : p = x
  · rw [if_pos e] at h; cases h
  · rw [if_neg e] at h; exact ⟨e, h⟩
theorem JL.dropped {K : PySem.W.Frag} {C CS : Addr} {H H' : Hp} {A : Adr} {s : SD} {x : Path} {b : Nat} (j : JL K C CS H A s) (hx : dropP s.size s.d s.cs = some x) (hb : s.d.under x = some b) (p : JP K C CS H' A (s.del x b) (s.del x b)) : JL K C CS H' A (s.del x b) := by
  have hdm := goesP_mem (dropP_mem hx)
  have hbl := j.und x b hb
  have hb1 : nth s.cs ((b : Nat) : Int) = 1 := by have := hdm.2.2; rw [hb] at this; exact this
  have hln : (s.cs.set b (nth s.cs ((b : Nat) : Int) - 1)).length = s.cs.length := List.length_set ..
  refine p.jl (j.sok.release hbl (by rw [hb1]; decide)) (j.tok.del hdm.2.1) (hln.trans j.many) j.lets (fun p c h => by show c < (s.cs.set _ _).length; rw [hln]; exact j.und p c (del_under h).2) (fun c hc => ?_) (fun c hc => by show c < (s.cs.set _ _).length; rw [hln]; exact j.minb c hc) (fun p hp => j.long p (List.mem_filter.mp hp).1) j.few
  have hc : c < s.cs.length := by
    have hc : c < (s.cs.set b (nth s.cs ((b : Nat) : Int) - 1)).length := hc
    rw [hln] at hc
    exact hc
  show nth (s.cs.set b (nth s.cs ((b : Nat) : Int) - 1)) ((c : Nat) : Int) = (treeCnt (s.d.del x) c : Int) + (s.mine.count c : Int)
  have c1 := j.cnt c hc
  rw [treeCnt_del j.tok hdm.1 c] at c1
  rw [nthS hbl]
  by_cases e : c = b
  · subst e
    rw [if_pos hb] at c1
    rw [if_pos rfl]
    omega
  · rw [if_neg (fun z => e (Option.some.inj (z.symm.trans hb)))] at c1
    rw [if_neg e]
    omega
theorem JL.droppedKv {K : PySem.W.Frag} {C CS : Addr} {H : Hp} {A : Adr} {s : SD} {x : Path} {b : Nat} (j : JL K C CS H A s) (hx : dropP s.size s.d s.cs = some x) (hb : s.d.under x = some b) : ∀ p c, (s.del x b).d.under p = some c → s.d.under p = some c ∧ (s.del x b).kv[c]? = s.kv[c]? := fun p c h => by
  obtain ⟨hp, h⟩ := del_under h
  refine ⟨h, ?_⟩
  have hdm := goesP_mem (dropP_mem hx)
  have hb1 : nth s.cs ((b : Nat) : Int) = 1 := by have := hdm.2.2; rw [hb] at this; exact this
  have c1 := j.cnt b (j.und x b hb)
  have hd := j.tok.del hdm.2.1
  rw [treeCnt_del j.tok hdm.1 b, if_pos hb] at c1
  have hcb : b ≠ c := fun e => by
    have h2 : (s.d.del x).under p = some b := by
      show (if p = x then none else s.d.under p) = some b
      rw [if_neg hp, e]; exact h
    have := treeCnt_pos hd h2
    omega
  show (relK s.cs s.kv b)[c]? = _
  unfold relK
  split
  · rw [List.getElem?_set_ne hcb]
  · rfl

/-! ### the law -/
theorem tq_frS {S : List Addr} {H H' : Hp} {b : Bool} {K : PySem.W.Frag} {a : Addr} {xs : List V} (f : FrS S H H') (n : a ∉ S) (h : Tq b K H a xs) : Tq b K H' a xs := by
  cases b with
  | false => exact f.at n h
  | true =>
    have h : Sq true K H a xs := h
    have h2 : Sq true K (hs S H) a xs := sq_hs n h
    exact Same.sq (b := true) f h2
theorem in_zero (cs : List Int) : inV (.int 0) (cs.map V.int) = decide ((0 : Int) ∈ cs) := by
  unfold inV
  induction cs with
  | nil => rfl
  | cons a r ih =>
    rw [List.map_cons, List.any_cons, ih, eqV_int]
    by_cases e : (0 : Int) = a
    · subst e; simp
    · simp [e, Ne.symm e]
/-! ### drops until nothing is left -/
theorem one_path {size : Nat} {d : TreeD} (ok : TreeOk size d) {b : Nat} (h1 : treeCnt d b ≤ 1) {p q : Path} (hp : d.under p = some b) (hq : d.under q = some b) : p = q := Classical.byContradiction fun hne => by
  have mp : p ∈ d.paths.filter fun p => d.under p == some b := List.mem_filter.mpr ⟨(ok.dom p).mp (by rw [hp]; rfl), by rw [hp]; simp⟩
  have mq : q ∈ d.paths.filter fun p => d.under p == some b := List.mem_filter.mpr ⟨(ok.dom q).mp (by rw [hq]; rfl), by rw [hq]; simp⟩
  have h2 := nodup_len (l := [p, q]) (m := d.paths.filter fun p => d.under p == some b) (List.nodup_cons.mpr ⟨by simp [hne], List.nodup_cons.mpr ⟨List.not_mem_nil, List.nodup_nil⟩⟩) (fun x hx => by
    simp only [List.mem_cons, List.not_mem_nil, or_false] at hx
    rcases hx with rfl | rfl
    · exact mp
    · exact mq)
  have h2 : 2 ≤ treeCnt d b := h2
  omega
theorem few_paths {size n : Nat} {d : TreeD} (ok : TreeOk size d) (h1 : ∀ b, treeCnt d b ≤ 1) (hun : ∀ p b, d.under p = some b → b < n) : d.paths.length ≤ n := by
  have get : ∀ p ∈ d.paths, ∃ b, d.under p = some b := fun p hp => Option.isSome_iff_exists.mp ((ok.dom p).mpr hp)
  have h := nodup_len (l := d.paths.map fun p => (d.under p).getD 0) (m := List.range n) (nodup_map_on (fun p hp q hq e => by
    obtain ⟨b, hb⟩ := get p hp
    obtain ⟨c, hc⟩ := get q hq
    rw [hb, hc] at e
    have e : b = c := e
    subst e
    exact one_path ok (h1 b) hb hc) ok.nod) (fun x hx => by
    obtain ⟨p, hp, rfl⟩ := List.mem_map.mp hx
    obtain ⟨b, hb⟩ := get p hp
    rw [hb]
    exact List.mem_range.mpr (hun p b hb))
  rw [List.length_map, List.length_range] at h
  exact h
theorem ends_ne {size : Nat} {d : TreeD} (ok : TreeOk size d) (hl : ∀ p ∈ d.paths, p.length ≤ 80) : ∀ (n : Nat) (p : Path), p ∈ d.paths → 81 - p.length ≤ n → ∃ e, e ∈ endsP size d.paths
  | 0, p, hp, hn => by have := hl p hp; omega
  | n + 1, p, hp, hn => by
    by_cases hm : p ∈ d.paths.map (aheadP size)
    · obtain ⟨q, hq, e⟩ := List.mem_map.mp hm
      obtain ⟨k, hk⟩ := ok.shape q hq
      have hs := ok.pos
      have hpl : p.length = q.length - size := by
        rw [← e]
        unfold aheadP
        rw [List.length_take]
        omega
      have e2 : (k + 1) * size = k * size + size := by rw [Nat.add_mul, Nat.one_mul]
      have := hl q hq
      exact ends_ne ok hl n q hq (by omega)
    · exact ⟨p, List.mem_filter.mpr ⟨hp, decide_eq_true hm⟩⟩
theorem drop_some {size : Nat} {d : TreeD} {cs : List Int} (ok : TreeOk size d) (hl : ∀ p ∈ d.paths, p.length ≤ 80) (hne : d.paths ≠ []) (ha : ∀ p ∈ d.paths, aloneP d cs p = true) : ∃ x, dropP size d cs = some x := by
  obtain ⟨p, hp⟩ := List.exists_mem_of_ne_nil _ hne
  obtain ⟨e, he⟩ := ends_ne ok hl 81 p hp (by omega)
  have hg : e ∈ goesP size d cs := List.mem_filter.mpr ⟨he, ha e (List.mem_filter.mp he).1⟩
  cases h : goesP size d cs with
  | nil => rw [h] at hg; cases hg
  | cons a r => exact ⟨_, dropP_cons h⟩
theorem put_ne {size : Nat} {d : TreeD} {q : Path} {b : Nat} (h : d.paths ≠ []) : (d.put size q b).paths ≠ [] := by
  by_cases hn : newP size d q = true
  · rw [put_new hn]
    show sortP (d.paths ++ [q]) ≠ []
    intro z
    have := sortP_len (ps := d.paths ++ [q])
    rw [z, List.length_append] at this
    simp at this
  · rw [put_old hn]; exact h
theorem put_first {size : Nat} {d : TreeD} {q : Path} {b : Nat} (ok : TreeOk size d) (h : d.paths = []) (hq : q.length = size) : (d.put size q b).paths ≠ [] := by
  have hn : newP size d q = true := by
    unfold newP
    have hu : d.under q = none := by
      cases hu : d.under q with
      | none => rfl
      | some b =>
        have := (ok.dom q).mp (by rw [hu]; rfl)
        rw [h] at this; cases this
    have ha : aheadP size q = [] := by
      unfold aheadP
      rw [hq, Nat.sub_self]; rfl
    rw [hu, ha]; rfl
  rw [put_new hn]
  show sortP (d.paths ++ [q]) ≠ []
  intro z
  have := sortP_len (ps := d.paths ++ [q])
  rw [z, List.length_append] at this
  simp at this
theorem put_ones {size : Nat} {d : TreeD} {q : Path} {jj : Nat} (ok : TreeOk size d) (h : newP size d q = true → treeCnt d jj = 0) (h1 : ∀ b, treeCnt d b ≤ 1) : ∀ b, treeCnt (d.put size q jj) b ≤ 1 := fun b => by
  rw [treeCnt_put ok]
  have := h1 b
  by_cases e : newP size d q = true ∧ jj = b
  · rw [if_pos e, ← e.2, h e.1]; omega
  · rw [if_neg e]; omega
/-- both parts while a block is held from outside (e) -/
structure J22 (K : PySem.W.Frag) (C CS : Addr) (H : Hp) (A : Adr) (s : SD) (e : Nat → Nat) : Prop where
  jp : JP K C CS H A s s
  sok : SOk s.size s.cs s.kv
  tok : TreeOk s.size s.d
  many : s.cs.length = s.many
  und : ∀ p b, s.d.under p = some b → b < s.cs.length
  cnt : ∀ b : Nat, b < s.cs.length → nth s.cs ((b : Nat) : Int) = (treeCnt s.d b : Int) + (e b : Int)
  long : ∀ p ∈ s.d.paths, p.length ≤ 80
theorem J22.same {K : PySem.W.Frag} {C CS : Addr} {H H' : Hp} {A : Adr} {s : SD} {e : Nat → Nat} (j : J22 K C CS H A s e) (f : Same H H') : J22 K C CS H' A s e := ⟨j.jp.same f, j.sok, j.tok, j.many, j.und, j.cnt, j.long⟩
theorem J22.jx {K : PySem.W.Frag} {C CS : Addr} {H : Hp} {A : Adr} {s : SD} {e : Nat → Nat} (j : J22 K C CS H A s e) : JX K C CS H A s := ⟨j.jp.law, j.jp.tree, j.jp.store, j.sok, j.tok, j.many, j.long⟩
theorem J22.dropped {K : PySem.W.Frag} {C CS : Addr} {H H' : Hp} {A : Adr} {s : SD} {e : Nat → Nat} {x : Path} {b : Nat} (j : J22 K C CS H A s e) (hx : dropP s.size s.d s.cs = some x) (hb : s.d.under x = some b) (p : JP K C CS H' A (s.del x b) (s.del x b)) : J22 K C CS H' A (s.del x b) e := by
  have hdm := goesP_mem (dropP_mem hx)
  have hbl := j.und x b hb
  have hb1 : nth s.cs ((b : Nat) : Int) = 1 := by have := hdm.2.2; rw [hb] at this; exact this
  have hln : (s.cs.set b (nth s.cs ((b : Nat) : Int) - 1)).length = s.cs.length := List.length_set ..
  refine ⟨p, j.sok.release hbl (by rw [hb1]; decide), j.tok.del hdm.2.1, hln.trans j.many, fun p c h => by show c < (s.cs.set _ _).length; rw [hln]; exact j.und p c (del_under h).2, fun c hc => ?_, fun p hp => j.long p (List.mem_filter.mp hp).1⟩
  have hc : c < s.cs.length := by
    have hc : c < (s.cs.set b (nth s.cs ((b : Nat) : Int) - 1)).length := hc
    rw [hln] at hc
    exact hc
  show nth (s.cs.set b (nth s.cs ((b : Nat) : Int) - 1)) ((c : Nat) : Int) = (treeCnt (s.d.del x) c : Int) + (e c : Int)
  have c1 := j.cnt c hc
  rw [treeCnt_del j.tok hdm.1 c] at c1
  rw [nthS hbl]
  by_cases h : c = b
  · subst h
    rw [if_pos hb] at c1
    rw [if_pos rfl]
    omega
  · rw [if_neg (fun z => h (Option.some.inj (z.symm.trans hb)))] at c1
    rw [if_neg h]
    omega
theorem SOk.hold' {size : Int} {cs : List Int} {kv : List (List V)} (ok : SOk size cs kv) {b : Nat} (hb : b < cs.length) (h1 : nth cs ((b : Nat) : Int) = 1) : SOk size (cs.set b 2) kv := by
  have h := ok.hold hb
  rw [h1] at h
  exact h
theorem all_zero {cs : List Int} {n : Nat} (hn : cs.length = n) (h : ∀ b : Nat, b < n → nth cs ((b : Nat) : Int) = 0) : freeOf cs = n := by
  rw [← free_count, ← hn]
  refine List.count_eq_length.mpr fun x hx => ?_
  obtain ⟨i, hi, rfl⟩ := List.getElem_of_mem hx
  have := h i (by omega)
  rw [nth_get hi] at this
  exact this.symm
def sp_law (K : PySem.W.Frag) : Sp := fun vs H Q _ => ∃ (a : Addr) (ns : List Int), vs = [.ref a] ∧ SqL K H a (ns.map V.int) ∧ ns.length ≤ 63 ∧ ∀ H', Q (.bl true) H'
theorem ok_law (T : Txt K mg) : FnOk P w K mg base CX0 14 T.a_law T.d_law ["_law_script"] (sp_law K) := by
  refine T.F_law.ok sc_law (fun vs H Q E h => ?_) (fun cdv A outer s H vs Q E hr h => ?_)
  · obtain ⟨_, _, rfl, _⟩ := h
    rfl
  · obtain ⟨a, sc, rfl, hS0, hlen, k⟩ := h
    have hS : Sq true K H a (sc.map V.int) := hS0
    have cS := T.C_Store
    have cT := T.C_Tree
    refine ⟨_, (pss_cons (ps_set (i := 1) sc_law.nd rfl (Or.inl rfl) (pe_call (ok_L_pool T) (hr.mono (by decide)) (by rfl) T.g_L_pool T.F_L_pool.kp T.b_L_pool .nil pass0 (pa_cons (pv 0) (pa_cons pe_int pa_nil))))
      (pss_cons (ps_set (i := 2) sc_law.nd rfl (Or.inl rfl) (pe_call (ok_L_new T) (hr.mono (by decide)) (by rfl) T.g_L_new T.F_L_new.kp T.b_L_new .nil pass0 (pa_cons (pv 1) (pa_cons (pe_ix (k_ix (K := K) rfl) (pe_lst (pa_cons pe_int (pa_cons pe_int (pa_cons pe_int (pa_cons pe_int (pa_cons pe_int (pa_cons pe_int (pa_cons pe_int pa_nil)))))))) (pe_call (ok_L_draw T) (hr.mono (by decide)) (by rfl) T.g_L_draw T.F_L_draw.kp T.b_L_draw .nil pass0 (pa_cons (pv 1) (pa_cons pe_int pa_nil))) (fun _ _ => rfl)) pa_nil))))
      (pss_cons (ps_dput (u1 hr.units) (pv 2) pe_str (pe_ix (k_ix (K := K) rfl) (pe_lst (pa_cons pe_int (pa_cons pe_int pa_nil))) (pe_call (ok_L_draw T) (hr.mono (by decide)) (by rfl) T.g_L_draw T.F_L_draw.kp T.b_L_draw .nil pass0 (pa_cons (pv 1) (pa_cons pe_int pa_nil))) (fun _ _ => rfl)) rfl)
      (pss_cons (ps_dput (u1 hr.units) (pv 2) pe_str pe_int rfl)
      (pss_cons (ps_expr (k_bm (K := K) rfl PySem.F.plainAttrs_list PySem.F.slot_list_extend PySem.F.type_list_extend mt_extend (pe_dget (u1 hr.units) (pv 2) pe_str (fun _ _ => rfl)) (pa_cons (pe_lc (own := [("_law_k", 3)]) (g := gName 3) (tt := tYes) rfl sc_law.nd (pi_range1 rfl T.z_range (pa_cons pe_int pa_nil)) (blkOk_by (own := [("_law_k", 3)]) (by kernel_rfl)) (fun _ _ _ _ _ => (pg_name (i := 3) sc_law.nd rfl (by first | exact Or.inl rfl | exact Or.inr rfl))) (fun _ _ _ _ _ => pts_nil) (fun _ _ _ _ _ => pe_int)) pa_nil)))
      (pss_cons (ps_set (i := 4) sc_law.nd rfl (Or.inl rfl) (pe_make T.M_Store (ok_Store___init__ T) (hr.mono (by decide)) rfl T.gc_Store T.b_Store___init__ .nil pass0 (pa_cons pe_int (pa_cons (pe_dget (u1 hr.units) (pv 2) pe_str (fun _ _ => rfl)) pa_nil))))
      (pss_cons (ps_set (i := 5) sc_law.nd rfl (Or.inl rfl) (pe_make T.M_Tree (ok_Tree___init__ T) (hr.mono (by decide)) rfl T.gc_Tree T.b_Tree___init__ .nil pass0 (pa_cons (pv 4) pa_nil)))
      (pss_cons (ps_for PassesOwn.never rfl (pi_range1 rfl T.z_range (pa_cons (pe_op (k_addG (K := K) rfl) pe_int (pe_call (ok_L_draw T) (hr.mono (by decide)) (by rfl) T.g_L_draw T.F_L_draw.kp T.b_L_draw .nil pass0 (pa_cons (pv 1) (pa_cons pe_int pa_nil)))) pa_nil)) (pg_name (i := 3) sc_law.nd rfl (Or.inl rfl))
      (pss_cons (ps_set (i := 6) sc_law.nd rfl (Or.inl rfl) (pe_tup pa_nil))
      (Evl.pss_cut (ps_if (PW.pt (pw_or (pt_cmpR op_gt (pv 3) pe_int (nomark _)) (pw_or1 (pt_cmpR (k_eqG (K := K) rfl hr.units) (pe_call (ok_L_draw T) (hr.mono (by decide)) (by rfl) T.g_L_draw T.F_L_draw.kp T.b_L_draw .nil pass0 (pa_cons (pv 1) (pa_cons pe_int pa_nil))) pe_int (nomark _))))) (pss_one (ps_set (i := 6) sc_law.nd rfl (Or.inl rfl) (pe_call (ok_L_pathX T) (hr.mono (by decide)) (by rfl) T.g_L_path T.F_L_path.kp T.b_L_path .nil pass0 (pa_cons (pv 1) (pa_cons (pv 2) pa_nil))))) pss_nil)
      (pss_cons (ps_set (i := 6) sc_law.nd rfl (Or.inl rfl) (pe_op op_catA (pv 6) (pe_call (ok_L_letters T) (hr.mono (by decide)) (by rfl) T.g_L_letters T.F_L_letters.kp T.b_L_letters .nil pass0 (pa_cons (pv 1) (pa_cons (pv 2) (pa_cons (pe_dget (u1 hr.units) (pv 2) pe_str (fun _ _ => rfl)) pa_nil))))))
      (pss_one (ps_if (PW.pt (pw_and (pt_cmpR (k_inS (K := K) rfl) pe_int (pe_dget (u1 hr.units) (pv 2) pe_str (fun _ _ => rfl)) rfl) (pw_and1 (pt_not (k_tru (K := K) rfl (pe_call (ok_L_put T) (hr.mono (by decide)) (by rfl) T.g_L_put T.F_L_put.kp T.b_L_put .nil pass0 (pa_cons (pv 1) (pa_cons (pv 4) (pa_cons (pv 5) (pa_cons (pv 2) (pa_cons (pv 6) (pa_cons pe_bl pa_nil))))))) (by intro _; rfl)))))) (pss_one (ps_ret pe_bl)) pss_nil))))))
      (pss_cons (ps_for PassesOwn.never rfl (pi_range1 rfl T.z_range (pa_cons (pe_call (ok_L_draw T) (hr.mono (by decide)) (by rfl) T.g_L_draw T.F_L_draw.kp T.b_L_draw .nil pass0 (pa_cons (pv 1) (pa_cons pe_int pa_nil))) pa_nil)) (pg_name (i := 3) sc_law.nd rfl (Or.inl rfl))
      (pss_cons (ps_set (i := 7) sc_law.nd rfl (Or.inl rfl) (pe_callB (cr_sortedD rfl) (by rfl) T.z_sorted (by decide +kernel) (pa_cons (pe_dget (u1 hr.units) (pv 2) pe_str (fun _ _ => rfl)) pa_nil)))
      (pss_cons (ps_set (i := 6) sc_law.nd rfl (Or.inl rfl) (pe_ix (k_ix (K := K) rfl) (pv 7) (pe_call (ok_L_draw T) (hr.mono (by decide)) (by rfl) T.g_L_draw T.F_L_draw.kp T.b_L_draw .nil pass0 (pa_cons (pv 1) (pa_cons (pe_callB (k_lenS (K := K) rfl) (by rfl) T.z_len (by decide +kernel) (pa_cons (pv 7) pa_nil)) pa_nil))) (fun _ _ => rfl)))
      (pss_one (ps_if (pt_cmpR op_gt (pe_call (ok_L_draw T) (hr.mono (by decide)) (by rfl) T.g_L_draw T.F_L_draw.kp T.b_L_draw .nil pass0 (pa_cons (pv 1) (pa_cons pe_int pa_nil))) pe_int (nomark _)) (pss_cons (ps_set (i := 6) sc_law.nd rfl (Or.inl rfl) (pe_op op_catA (pv 6) (pe_call (ok_L_letters T) (hr.mono (by decide)) (by rfl) T.g_L_letters T.F_L_letters.kp T.b_L_letters .nil pass0 (pa_cons (pv 1) (pa_cons (pv 2) (pa_cons (pe_call (ok_L_draw T) (hr.mono (by decide)) (by rfl) T.g_L_draw T.F_L_draw.kp T.b_L_draw .nil pass0 (pa_cons (pv 1) (pa_cons pe_int pa_nil))) pa_nil))))))
      (pss_one (ps_if (pt_not (k_tru (K := K) rfl (pe_call (ok_L_same_at T 6) (hr.mono (by decide)) (by rfl) T.g_L_same T.F_L_same.kp T.b_L_same .nil pass0 (pa_cons (pe_meth (pv 5) T.C_Tree T.m_Tree_known (ok_Tree_known T) (hr.mono (by decide)) T.b_Tree_known .nil pass0 (pa_cons (pv 6) pa_nil)) (pa_cons (pe_call (ok_L_known T) (hr.mono (by decide)) (by rfl) T.g_L_known T.F_L_known.kp T.b_L_known .nil pass0 (pa_cons (pv 2) (pa_cons (pv 6) pa_nil))) pa_nil))) (by intro _; rfl))) (pss_one (ps_ret pe_bl)) pss_nil))) (pss_one (ps_if (pt_cmpR (k_inS (K := K) rfl) pe_int (pe_dget (u1 hr.units) (pv 2) pe_str (fun _ _ => rfl)) rfl) (pss_cons (ps_set (i := 8) sc_law.nd rfl (Or.inl rfl) (pe_op op_mul (pe_dget (u1 hr.units) (pv 2) pe_str (fun _ _ => rfl)) (pe_ix (k_ix (K := K) rfl) (pe_lst (pa_cons pe_int (pa_cons pe_int (pa_cons pe_int pa_nil)))) (pe_call (ok_L_draw T) (hr.mono (by decide)) (by rfl) T.g_L_draw T.F_L_draw.kp T.b_L_draw .nil pass0 (pa_cons (pv 1) (pa_cons pe_int pa_nil))) (fun _ _ => rfl))))
      (Evl.pss_cut (ps_if (pt_cmpR op_le (pe_op (k_addG (K := K) rfl) (pe_callB (k_lenS (K := K) rfl) (by rfl) T.z_len (by decide +kernel) (pa_cons (pv 6) pa_nil)) (pv 8)) pe_int (nomark _)) (pss_one (ps_set (i := 6) sc_law.nd rfl (Or.inl rfl) (pe_op op_catA (pv 6) (pe_call (ok_L_letters T) (hr.mono (by decide)) (by rfl) T.g_L_letters T.F_L_letters.kp T.b_L_letters .nil pass0 (pa_cons (pv 1) (pa_cons (pv 2) (pa_cons (pv 8) pa_nil))))))) pss_nil)
      (pss_one (ps_if (pt_not (k_tru (K := K) rfl (pe_call (ok_L_put T) (hr.mono (by decide)) (by rfl) T.g_L_put T.F_L_put.kp T.b_L_put .nil pass0 (pa_cons (pv 1) (pa_cons (pv 4) (pa_cons (pv 5) (pa_cons (pv 2) (pa_cons (pv 6) (pa_cons pe_bl pa_nil))))))) (by intro _; rfl))) (pss_one (ps_ret pe_bl)) pss_nil)))) pss_nil)))))))
      (pss_cons (ps_set (i := 7) sc_law.nd rfl (Or.inl rfl) (pe_callB (cr_sortedD rfl) (by rfl) T.z_sorted (by decide +kernel) (pa_cons (pe_dget (u1 hr.units) (pv 2) pe_str (fun _ _ => rfl)) pa_nil)))
      (pss_cons (ps_set (i := 9) sc_law.nd rfl (Or.inl rfl) (pe_dget (u1 hr.units) (pe_dget (u1 hr.units) (pv 2) pe_str (fun _ _ => rfl)) (pe_ix (k_ix (K := K) rfl) (pv 7) (pe_call (ok_L_draw T) (hr.mono (by decide)) (by rfl) T.g_L_draw T.F_L_draw.kp T.b_L_draw .nil pass0 (pa_cons (pv 1) (pa_cons (pe_callB (k_lenS (K := K) rfl) (by rfl) T.z_len (by decide +kernel) (pa_cons (pv 7) pa_nil)) pa_nil))) (fun _ _ => rfl)) (fun _ _ => rfl)))
      (pss_cons (ps_expr (pe_meth (pv 4) T.C_Store T.m_Store_hold (ok_Store_hold T) (hr.mono (by decide)) T.b_Store_hold .nil pass0 (pa_cons (pv 9) pa_nil)))
      (pss_cons (ps_asg pe_int (pg_sub (pe_dget (u1 hr.units) (pv 2) pe_str (fun _ _ => rfl)) (pv 9) set_list))
      (pss_cons (ps_set (i := 10) sc_law.nd rfl (Or.inl rfl) (pe_call (ok_L_draw T) (hr.mono (by decide)) (by rfl) T.g_L_draw T.F_L_draw.kp T.b_L_draw .nil pass0 (pa_cons (pv 1) (pa_cons pe_int pa_nil))))
      (pss_cons (ps_for PassesOwn.never rfl (pi_range1 rfl T.z_range (pa_cons pe_int pa_nil)) (pg_name (i := 3) sc_law.nd rfl (Or.inl rfl))
      (Evl.pss_cut (ps_if (pt_cmpR (k_eqG (K := K) rfl hr.units) (pv 3) (pv 10) (nomark _)) (pss_cons (ps_expr (pe_meth (pv 4) T.C_Store T.m_Store_release (ok_Store_release T) (hr.mono (by decide)) T.b_Store_release .nil pass0 (pa_cons (pv 9) pa_nil)))
      (pss_one (ps_expr (pe_call (ok_L_release T) (hr.mono (by decide)) (by rfl) T.g_L_release T.F_L_release.kp T.b_L_release .nil pass0 (pa_cons (pv 2) (pa_cons (pv 9) pa_nil)))))) pss_nil)
      (pss_one (ps_if (PW.pt (pw_or (pt_not (k_tru (K := K) rfl (pe_call (ok_L_same_at T 6) (hr.mono (by decide)) (by rfl) T.g_L_same T.F_L_same.kp T.b_L_same .nil pass0 (pa_cons (pe_meth0 (pv 5) T.C_Tree T.m_Tree_drop (ok_Tree_drop T) (hr.mono (by decide)) T.b_Tree_drop .nil pass0) (pa_cons (pe_call (ok_L_dropped T) (hr.mono (by decide)) (by rfl) T.g_L_dropped T.F_L_dropped.kp T.b_L_dropped .nil pass0 (pa_cons (pv 2) pa_nil)) pa_nil))) (by intro _; rfl))) (pw_or1 (pt_not (k_tru (K := K) rfl (pe_call (ok_L_shownX T) (hr.mono (by decide)) (by rfl) T.g_L_shown T.F_L_shown.kp T.b_L_shown .nil pass0 (pa_cons (pv 4) (pa_cons (pv 5) (pa_cons (pv 2) pa_nil)))) (by intro _; rfl)))))) (pss_one (ps_ret pe_bl)) pss_nil))))
      (pss_one (ps_ret (pe_and (pe_call (ok_L_same_at T 6) (hr.mono (by decide)) (by rfl) T.g_L_same T.F_L_same.kp T.b_L_same .nil pass0 (pa_cons (pe_callB (call_lenO T.m_Tree___len__ (ok_Tree___len__ T) (hr.mono (by decide)) T.b_Tree___len__) (by rfl) T.z_len (by decide +kernel) (pa_cons (pv 5) pa_nil)) (pa_cons pe_int pa_nil))) (pe_one (pe_call (ok_L_same_at T 6) (hr.mono (by decide)) (by rfl) T.g_L_same T.F_L_same.kp T.b_L_same .nil pass0 (pa_cons (pe_prop (pv 4) T.C_Store T.P_Store_free (ok_Store_free T) (hr.mono (by decide)) T.b_Store_free .nil pass0 rfl) (pa_cons pe_int pa_nil)))))))))))))))))))))), ?_⟩
    refine go_start (σ' := [some (.ref a), none, none, none, none, none, none, none, none, none, none]) rfl ?_
    try dsimp only [cxOf, Cx.nox, Cx.wish]
    walk_at "GO"
    refine ⟨a, sc, 650, rfl, hS, hlen, by omega, by omega, fun p H1 hp s1 hP1 => ?_⟩
    walk_at "GO"
    rename_i l0 H2 hl0 s2 e2
    have hP2 := hP1.same s2
    refine ⟨p, 7, rfl, hP2, by omega, fun r H3 r0 r1 f3 hP3 => ?_⟩
    have e3 := f3 _ _ (hP1.ne hl0) e2
    refine w_ixI (b := true) (ns := [1, 1, 2, 2, 3, 4, 8]) (Sq.lst e3) r0 (by show r < (7 : Int); omega) ?_
    obtain ⟨size, hsz, hs0, hs8⟩ : ∃ size : Nat, nth [1, 1, 2, 2, 3, 4, 8] r = (size : Int) ∧ 1 ≤ size ∧ size ≤ 8 := by
      have hm := nth_mem (ns := [1, 1, 2, 2, 3, 4, 8]) r0 (by show r < (7 : Int); omega)
      simp only [List.mem_cons, List.not_mem_nil, or_false] at hm
      exact ⟨(nth [1, 1, 2, 2, 3, 4, 8] r).toNat, by omega, by omega, by omega⟩
    rw [hsz]
    clear hsz r0 r1 e3 e2 f3 hP2 hP1 s2 hl0
    walk_at "GO"
    refine ⟨p, size, rfl, hP3, fun H4 ls tr us ho cl mi many0 letters0 f4 hP4 hm10 hm20 hl10 hl120 est0 etr0 eus0 eho0 ecl0 emi0 hno n1 n2 n3 n4 => ?_⟩
    walk_at "GO"
    rename_i l1 H4a hl1 s4a e4a
    have hpsl0 : p ∉ [ls, tr, us, ho, cl, mi] := fun m => by
      obtain ⟨ns, q1, _⟩ := hP3
      rw [hno p m] at q1; cases q1
    refine ⟨p, 2, rfl, hP4.same s4a, by omega, fun r2 H4b r20 r21 f4b hP4b => ?_⟩
    have e4b := f4b _ _ (hP4.ne hl1) e4a
    refine w_ixI (b := true) (ns := [6, 12]) (Sq.lst e4b) r20 (by show r2 < (2 : Int); omega) ?_
    obtain ⟨letters, hlet, hl1', hl12⟩ : ∃ letters : Nat, nth [6, 12] r2 = (letters : Int) ∧ 1 ≤ letters ∧ letters ≤ 12 := by
      have hm := nth_mem (ns := [6, 12]) r20 (by show r2 < (2 : Int); omega)
      simp only [List.mem_cons, List.not_mem_nil, or_false] at hm
      exact ⟨(nth [6, 12] r2).toNat, by omega, by omega, by omega⟩
    rw [hlet]
    have k4 : ∀ c ∈ [ls, tr, us, ho, cl, mi], ∀ o, H4 c = some o → H4b c = some o := fun c hc o e => f4b _ _ (fun z => hpsl0 (by rw [← z]; exact hc)) (s4a _ _ e)
    have est1 := k4 ls (by simp) _ est0
    clear e4a e4b hlet r20 r21 hl1
    walk_at "GO"
    refine w_dputAt est1 (by show 8 < 1000; omega) (show putK (StF size many0 letters0 tr us ho cl mi) (.inr "letters") (.int (letters : Int)) = StF size many0 letters tr us ho cl mi by kernel_rfl) ?_
    have nls : ∀ c ∈ [tr, us, ho, cl, mi], c ≠ ls := fun c hc z => by
      have q := k4 c (List.mem_cons_of_mem _ hc)
      simp only [List.mem_cons, List.not_mem_nil, or_false] at hc
      rcases hc with rfl | rfl | rfl | rfl | rfl
      · have q := q _ etr0; rw [z, est1] at q; cases q
      · have q := q _ eus0; rw [z, est1] at q; cases q
      · have q := q _ eho0; rw [z, est1] at q; cases q
      · have q := q _ ecl0; rw [z, est1] at q; cases q
      · have q := q _ emi0; rw [z, est1] at q; cases q
    have est2 : upd H4b ls (.dK (StF size many0 letters tr us ho cl mi)) ls = _ := upd_same
    have k5 : ∀ c ∈ [tr, us, ho, cl, mi], ∀ o, H4 c = some o → upd H4b ls (.dK (StF size many0 letters tr us ho cl mi)) c = some o := fun c hc o e => (upd_ne (nls c hc)).trans (k4 c (List.mem_cons_of_mem _ hc) o e)
    have hP5 := hP4b.upd (o := .dK (StF size many0 letters tr us ho cl mi)) (show ls ≠ p from fun z => hpsl0 (by rw [← z]; simp))
    generalize upd H4b ls (.dK (StF size many0 letters tr us ho cl mi)) = H4c at est2 k5 hP5 ⊢
    walk_at "GO"
    refine w_dputAt est2 (by show 8 < 1000; omega) (show putK (StF size many0 letters tr us ho cl mi) (.inr "many") (.int 12) = StF size 12 letters tr us ho cl mi by kernel_rfl) ?_
    have est : upd H4c ls (.dK (StF size 12 letters tr us ho cl mi)) ls = _ := upd_same
    have k6 : ∀ c ∈ [tr, us, ho, cl, mi], ∀ o, H4 c = some o → upd H4c ls (.dK (StF size 12 letters tr us ho cl mi)) c = some o := fun c hc o e => (upd_ne (nls c hc)).trans (k5 c hc o e)
    have hP4' := hP5.upd (o := .dK (StF size 12 letters tr us ho cl mi)) (show ls ≠ p from fun z => hpsl0 (by rw [← z]; simp))
    generalize upd H4c ls (.dK (StF size 12 letters tr us ho cl mi)) = H4d at est k6 hP4' ⊢
    have etr := k6 tr (by simp) _ etr0
    have eus := k6 us (by simp) _ eus0
    have eho := k6 ho (by simp) _ eho0
    have ecl := k6 cl (by simp) _ ecl0
    have emi := k6 mi (by simp) _ emi0
    clear est0 etr0 eus0 eho0 ecl0 emi0 est1 est2 k4 k5 k6 hP5 f4 f4b s4a hP4 hP4b hm10 hm20 hl10 hl120
    have hm1 : 1 ≤ 12 := by omega
    have hm20 : 12 ≤ 20 := by omega
    have hl1 : 1 ≤ letters := hl1'
    have hP4 := hP4'
    walk_at "GO"
    refine c_intsR (by omega) (by omega) (List.replicate 12 0) (by rw [List.length_replicate]; rfl) (fun _ => rfl) (fun i H5 N hi s5 hN => ?_) (fun D H5 hD s5 e5 => ?_)
    · walk_at "GO"
      have hN := hN _ (Same.refl _)
      rw [nth_rep0] at hN
      exact hN
    have eho5 := s5 _ _ eho
    walk_at "GO"
    refine ⟨ho, D, [], _, rfl, rfl, eho5, e5, by rw [sizeLine_eq, List.length_map, List.length_replicate]; show 0 + 12 ≤ _; omega, ?_⟩
    rw [List.nil_append]
    have hsl : ∀ c ∈ [ls, tr, us, cl, mi], c ≠ ho := fun c hc z => by
      simp only [List.mem_cons, List.not_mem_nil, or_false] at hc
      rcases hc with rfl | rfl | rfl | rfl | rfl
      · rw [z, eho] at est; cases est
      · rw [z, eho] at etr; cases etr
      · rw [z, eho] at eus; cases eus
      · exact n2 z.symm
      · exact n3 z.symm
    have hpsl : p ∉ [ls, tr, us, ho, cl, mi] := fun m => by
      obtain ⟨ns, q1, _⟩ := hP3
      rw [hno p m] at q1; cases q1
    have hpho : ho ≠ p := fun z => hpsl (by rw [z]; simp)
    have est6 := (upd_ne (o := .lst ((List.replicate 12 (0 : Int)).map V.int)) (hsl ls (by simp))).trans (s5 _ _ est)
    have etr6 := (upd_ne (o := .lst ((List.replicate 12 (0 : Int)).map V.int)) (hsl tr (by simp))).trans (s5 _ _ etr)
    have eus6 := (upd_ne (o := .lst ((List.replicate 12 (0 : Int)).map V.int)) (hsl us (by simp))).trans (s5 _ _ eus)
    have ecl6 := (upd_ne (o := .lst ((List.replicate 12 (0 : Int)).map V.int)) (hsl cl (by simp))).trans (s5 _ _ ecl)
    have emi6 := (upd_ne (o := .lst ((List.replicate 12 (0 : Int)).map V.int)) (hsl mi (by simp))).trans (s5 _ _ emi)
    have eho6 : upd H5 ho (.lst ((List.replicate 12 (0 : Int)).map V.int)) ho = some (.lst ((List.replicate 12 (0 : Int)).map V.int)) := upd_same
    have hP6 := (hP4.same s5).upd (o := .lst ((List.replicate 12 (0 : Int)).map V.int)) hpho
    generalize upd H5 ho (.lst ((List.replicate 12 (0 : Int)).map V.int)) = H6 at est6 etr6 eus6 ecl6 emi6 eho6 hP6 ⊢
    clear est etr eus eho ecl emi s5 e5 eho5 hP3 hP4 hD hno
    walk_at "GO"
    intro st dx hst hdx hne
    have s7 : Same H6 (upd (upd H6 dx (.own st)) st (.ins T.c_Store dx [])) := (Same.new hdx).trans (Same.new (by rw [upd_ne (Ne.symm hne)]; exact hst))
    have e7 : upd (upd H6 dx (.own st)) st (.ins T.c_Store dx []) st = some (.ins T.c_Store dx []) := upd_same
    generalize upd (upd H6 dx (.own st)) st (.ins T.c_Store dx []) = H7 at s7 e7 ⊢
    refine ⟨st, dx, 12, size, rfl, e7, hm1, by omega, by omega, by omega, fun ac ak H8 f8 hac hak I8 => ⟨rfl, ?_⟩⟩
    have s68 : Same H6 H8 := fun c o e => f8 _ _ (ne_of_none e hst) (s7 _ _ e)
    have k8 : ∀ c o, H7 c = some o → c ≠ st → H8 c = some o := fun c o e n => f8 _ _ n e
    walk_at "GO"
    intro t dt ht hdt hne2
    have s9 : Same H8 (upd (upd H8 dt (.own t)) t (.ins T.c_Tree dt [])) := (Same.new hdt).trans (Same.new (by rw [upd_ne (Ne.symm hne2)]; exact ht))
    have e9 : upd (upd H8 dt (.own t)) t (.ins T.c_Tree dt []) t = some (.ins T.c_Tree dt []) := upd_same
    generalize upd (upd H8 dt (.own t)) t (.ins T.c_Tree dt []) = H9 at s9 e9 ⊢
    refine ⟨t, dt, st, rfl, e9, fun H10 au ad f10 hau had hT => ⟨rfl, ?_⟩⟩
    have s810 : Same H8 H10 := fun c o e => f10 _ _ (ne_of_none e ht) (s9 _ _ e)
    have s610 := s68.trans s810
    have alc : ∀ c ∈ [p, ls, tr, us, ho, cl, mi], ∃ o, H6 c = some o := fun c hc => by
      simp only [List.mem_cons, List.not_mem_nil, or_false] at hc
      rcases hc with rfl | rfl | rfl | rfl | rfl | rfl | rfl
      · obtain ⟨ns, q1, _⟩ := hP6
        exact ⟨_, q1⟩
      · exact ⟨_, est6⟩
      · exact ⟨_, etr6⟩
      · exact ⟨_, eus6⟩
      · exact ⟨_, eho6⟩
      · exact ⟨_, ecl6⟩
      · exact ⟨_, emi6⟩
    have alS : ∀ c ∈ [st, ac, ak], ∃ o, H8 c = some o := fun c hc => by
      obtain ⟨dy, q1, q2, ⟨ks, q3, _⟩, _⟩ := I8
      simp only [List.mem_cons, List.not_mem_nil, or_false] at hc
      rcases hc with rfl | rfl | rfl
      · exact ⟨_, q1⟩
      · exact ⟨_, q2⟩
      · exact ⟨_, q3⟩
    have hnS : ∀ c ∈ [p, ls, tr, us, ho, cl, mi], c ∉ [st, ac, ak] := fun c hc m => by
      obtain ⟨o, e⟩ := alc c hc
      simp only [List.mem_cons, List.not_mem_nil, or_false] at m
      rcases m with rfl | rfl | rfl
      · rw [hst] at e; cases e
      · rw [s7 _ _ e] at hac; cases hac
      · rw [s7 _ _ e] at hak; cases hak
    have hnT : ∀ c o, H8 c = some o → c ∉ [t, au, ad] := fun c o e m => by
      simp only [List.mem_cons, List.not_mem_nil, or_false] at m
      rcases m with rfl | rfl | rfl
      · rw [ht] at e; cases e
      · rw [s9 _ _ e] at hau; cases hau
      · rw [s9 _ _ e] at had; cases had
    obtain ⟨B, hB⟩ : ∃ B : Adr, B = ⟨p, ls, tr, us, ho, cl, mi, t, st, au, ad, ac, ak⟩ := ⟨_, rfl⟩
    have j0 : JL K T.c_Tree T.c_Store H10 B ⟨size, 12, letters, 0, TreeD.nil, List.replicate 12 0, List.replicate 12 [], [], 0⟩ := by
      subst hB
      refine ⟨hP6.same s610, ⟨s610 _ _ est6, ⟨[], s610 _ _ etr6, DN.nil⟩, ⟨[], fun _ => none, s610 _ _ eus6, DN.nil, fun p c h => (by cases h), Nat.le_refl _⟩, s610 _ _ eho6, ⟨0, s610 _ _ ecl6, rfl⟩, s610 _ _ emi6, n1, n2, n3, n4⟩, hT _ fun x hx => ?_, storeV_same s810 I8, rep_sok hm1 (by omega) (by show (1 : Int) ≤ (size : Int); omega) (by show (size : Int) ≤ 8; omega), TreeOk.nil hs0, hpsl, fun m => ?_, hnS p (by simp), fun c hc m => ?_, fun c hc => hnS c (List.mem_cons_of_mem _ hc), fun c hc m => ?_, List.length_replicate .., ⟨hl1, hl12⟩, fun p b e => (by cases e), fun b hb => ?_, fun b hb => (by cases hb), fun p hp => (by cases hp), Nat.le_refl _⟩
      · rcases List.mem_cons.mp hx with hx | hx
        · obtain ⟨o, e⟩ := alc x (by rw [hx]; exact List.mem_cons_self)
          exact ⟨o, s9 _ _ (s68 _ _ e)⟩
        · rcases List.mem_append.mp hx with hx | hx
          · obtain ⟨o, e⟩ := alc x (List.mem_cons_of_mem _ hx)
            exact ⟨o, s9 _ _ (s68 _ _ e)⟩
          · obtain ⟨o, e⟩ := alS x hx
            exact ⟨o, s9 _ _ e⟩
      · obtain ⟨o, e⟩ := alc p (by simp)
        exact hnT p o (s68 _ _ e) m
      · obtain ⟨o, e⟩ := alc c (List.mem_cons_of_mem _ hc)
        exact hnT c o (s68 _ _ e) m
      · obtain ⟨o, e⟩ := alS c m
        exact hnT c o e hc
      · rw [nth_rep0]; rfl
    obtain ⟨ep, el, ett, es⟩ : p = B.p ∧ ls = B.ls ∧ t = B.t ∧ st = B.st := by subst hB; exact ⟨rfl, rfl, rfl, rfl⟩
    rw [ep, el, ett, es]
    clear alc alS hnS hnT hB hT s610 s810 I8 hac hak hau had e7 e9 s7 s9 s68 k8 f8 f10 est6 etr6 eus6 eho6 ecl6 emi6 hP6 hpsl hpho hsl hst hdx ht hdt hne hne2 ep el ett es
    obtain ⟨S0, eS⟩ : ∃ S0 : SD, S0 = ⟨size, 12, letters, 0, TreeD.nil, List.replicate 12 0, List.replicate 12 [], [], 0⟩ := ⟨_, rfl⟩
    rw [← eS] at j0
    have hN0 : S0.N ≤ 0 := by rw [eS]; exact Nat.le_refl _
    have hp0 : S0.d.paths.length ≤ 0 := by rw [eS]; exact Nat.le_refl _
    have hT0 : S0.d = TreeD.nil ∧ S0.cs = List.replicate 12 0 ∧ S0.mine = [] := by rw [eS]; exact ⟨rfl, rfl, rfl⟩
    clear eS
    walk_at "GO"
    refine ⟨B.p, 11, rfl, j0.pool, by omega, fun n H15 n0 n1 f15 hP15 => ?_⟩
    have j15 := j0.draw f15 hP15
    walk_at "GO"
    have hcl0 := hT0.2.1
    refine l_range (fun i σ H' => ∃ (y3 y6 : Option V) (s : SD), σ = [some (.ref a), some (.ref B.p), some (.ref B.ls), y3, some (.ref B.st), some (.ref B.t), y6, none, none, none, none] ∧ JL K T.c_Tree T.c_Store H' B s ∧ (i = 0 → s.d.paths = [] ∧ s.cs = List.replicate 12 0) ∧ (1 ≤ i → s.d.paths ≠ []) ∧ (∀ b, treeCnt s.d b ≤ 1) ∧ s.mine = [] ∧ s.cs.length = 12 ∧ s.N ≤ 200 * i) (by omega) (by omega) ⟨_, none, S0, rfl, j15, fun _ => ⟨by rw [hT0.1]; rfl, hT0.2.1⟩, fun h => absurd h (by omega), fun b => by rw [hT0.1]; exact Nat.zero_le _, hT0.2.2, by rw [hT0.2.1]; rfl, by omega⟩ ?_ ?_
    · clear j15 j0 hcl0
      rintro i σ G hi ⟨y3, y6, s, rfl, jG, hz0, hne, h1, hmine, hcl, hN⟩
      have hpz := few_paths jG.tok h1 jG.und
      walk_at "GO"
      rename_i e0 G1 he0 s1 ee0
      have j1 := jG.same s1
      have hsz := j1.sok.size
      refine w_cut (fun σ H' => ∃ (b : Addr) (q : Path) (kq : Nat), σ = [some (.ref a), some (.ref B.p), some (.ref B.ls), some (.int (i : Int)), some (.ref B.st), some (.ref B.t), some (.ref b), none, none, none, none] ∧ JL K T.c_Tree T.c_Store H' B s ∧ H' b = some (.tup ((natI q).map V.int)) ∧ q.length + 2 * s.size ≤ 53 ∧ q.length = kq * s.size ∧ (s.d.paths = [] → q = [])) ?_ ?_
      · walk_at "GO"
        refine w_iteD (fun hk5 => ?_) (fun hk5 => ?_)
        · walk_at "GO"
          refine ⟨B, s, rfl, j1, fun b G2 q j2 tu2 eb hq1 ⟨kq, hkq⟩ hnil => ?_⟩
          walk_at "GO"
          exact ⟨b, q, kq, rfl, j2, eb, hq1, hkq, hnil⟩
        · walk_at "GO"
          refine ⟨B.p, 3, rfl, j1.pool, by omega, fun r G2 r0 r1 f2 hP2 => ?_⟩
          have j2 := j1.draw f2 hP2
          have ee2 := (TupS.fr f2 j1.pool.nt) _ _ ee0
          walk_at "GO"
          refine w_iteD (fun hr0 => ?_) (fun hr0 => ?_)
          · walk_at "GO"
            refine ⟨B, s, rfl, j2, fun b G3 q j3 tu3 eb hq1 ⟨kq, hkq⟩ hnil => ?_⟩
            walk_at "GO"
            exact ⟨b, q, kq, rfl, j3, eb, hq1, hkq, hnil⟩
          · walk_at "GO"
            exact ⟨e0, [], 0, rfl, j2, ee2, by show 0 + _ ≤ _; omega, by simp, fun _ => rfl⟩
      · clear j1 jG ee0
        rintro σ G2 ⟨b, q, kq, rfl, j2, eb, hq1, hkq, hnil⟩
        have hst2 := j2.law.st
        walk_at "GO"
        refine ⟨B, s, (s.size : Int), rfl, j2, by omega, by omega, fun c G3 q2 j3 tu3 ec hq2 _ => ?_⟩
        rw [Int.toNat_natCast] at hq2
        walk_at "GO"
        refine w_catT (tu3 _ _ eb) ec (by rw [List.length_map, List.length_map, natI_len, natI_len]; omega) fun d G4 s4 ed => ?_
        rw [natI_catV] at ed
        have j4 := j3.same s4
        have hql : (q ++ q2).length = (kq + 1) * s.size := by rw [List.length_append, hkq, hq2, Nat.add_mul, Nat.one_mul]
        have hq80 : (q ++ q2).length ≤ 80 := by rw [List.length_append, hq2]; omega
        have hfst : s.d.paths = [] → (q ++ q2).length = s.size := fun z => by rw [hnil z]; exact hq2
        generalize q ++ q2 = qq at ed hql hq80 hfst
        have hst4 := j4.law.st
        have hho4 := j4.law.hold
        walk_at "GO"
        refine ⟨B.ho, _, rfl, .inl (Sq.lst hho4), rfl, flat_ints _, ?_⟩
        rw [if_neg (by decide), in_zero]
        by_cases hz : (0 : Int) ∈ s.cs
        · rw [decide_eq_true hz]
          walk_at "GO"
          refine ⟨B, s, d, qq, false, kq, rfl, j4, ed, hql, by omega, by omega, by omega, hz, fun s' G5 j5 st5 hm5 _ => ?_⟩
          obtain ⟨jj, hd5, hjj⟩ := st5.put
          have g1 := st5.N
          have g2 := st5.len
          walk_at "GO"
          refine ⟨_, _, s', rfl, j5, fun z => absurd z (by omega), fun _ => ?_, fun b => by rw [hd5]; exact put_ones j4.tok hjj h1 b, (hm5 rfl).trans hmine, g2.trans hcl, by omega⟩
          rw [hd5]
          by_cases hp0 : s.d.paths = []
          · exact put_first j4.tok hp0 (hfst hp0)
          · exact put_ne hp0
        · rw [decide_eq_false hz]
          walk_at "GO"
          refine ⟨_, _, s, rfl, j4, fun z => absurd z (by omega), fun _ => hne ?_, h1, hmine, hcl, by omega⟩
          by_cases h0 : i = 0
          · exact absurd (by rw [(hz0 h0).2]; simp) hz
          · omega
    · clear j15 j0 hcl0
      rintro σ G ⟨y3, y6, s0, rfl, jG, _, hne0, h10, hm0, hc0, hN0⟩
      have hne0 := hne0 (by omega)
      walk_at "GO"
      refine ⟨B.p, 13, rfl, jG.pool, by omega, fun n2 G1 n20 n21 f1 hP1 => ?_⟩
      have j1 := jG.draw f1 hP1
      walk_at "GO"
      refine l_range (fun i σ H' => ∃ (y3 y6 y7 y8 : Option V) (s : SD), σ = [some (.ref a), some (.ref B.p), some (.ref B.ls), y3, some (.ref B.st), some (.ref B.t), y6, y7, y8, none, none] ∧ JL K T.c_Tree T.c_Store H' B s ∧ s.d.paths ≠ [] ∧ (∀ b, treeCnt s.d b ≤ 1) ∧ s.mine = [] ∧ s.cs.length = 12 ∧ s.N ≤ 3000 + 200 * i) (by omega) (by omega) ⟨_, _, none, none, s0, rfl, j1, hne0, h10, hm0, hc0, by omega⟩ ?_ ?_
      · clear j1 jG
        rintro i σ G hi ⟨y3, y6, y7, y8, s, rfl, jG, hne, h1, hmine, hcl, hN⟩
        have hpz := few_paths jG.tok h1 jG.und
        have hpp := List.length_pos_iff.mpr hne
        have hsz := jG.sok.size
        have hst := jG.law.st
        obtain ⟨kt, ht, hk⟩ := jG.law.tree
        walk_at "GO"
        refine w_sortedDict ht hk jG.tok.dom jG.tok.asc jG.tok.nod (treeOk_ne jG.tok) fun l G1 ys hl s1 e1 r1 => ?_
        have j1 := jG.same s1
        have hlp := jG.pool.ne hl
        have hyl := r1.1
        have hSl : Sq true K G1 l ys := Sq.lst e1
        walk_at "GO"
        refine ⟨B.p, _, rfl, j1.pool, by omega, fun m G2 m0 m1 f2 hP2 => ?_⟩
        have j2 := j1.draw f2 hP2
        have e2 := f2 _ _ hlp e1
        obtain ⟨im, rfl, hm⟩ : ∃ im : Nat, m = (im : Int) ∧ im < ys.length := ⟨m.toNat, by omega, by omega⟩
        have hy : ys[im]? = some (ys[im]'hm) := List.getElem?_eq_getElem hm
        generalize ys[im]'hm = y at hy
        obtain ⟨p, hp⟩ : ∃ p, s.d.paths[im]? = some p := ⟨_, List.getElem?_eq_getElem (by omega)⟩
        obtain ⟨pa, rfl, hpa⟩ := r1.2 im y p hy hp
        have hpa2 := (TupS.fr f2 j1.pool.nt) _ _ hpa
        have hpm := List.mem_of_getElem? hp
        obtain ⟨kp, hkp⟩ := j2.tok.shape p hpm
        have hp80 := j2.long p hpm
        clear hst ht hSl
        refine w_ix (Sq.lst e2) (atI_nat hy) ?_
        clear e1 e2
        walk_at "GO"
        refine ⟨B.p, 3, rfl, j2.pool, by omega, fun r G3 r0 r1 f3 hP3 => ?_⟩
        have j3 := j2.draw f3 hP3
        have hpa3 := (TupS.fr f3 j2.pool.nt) _ _ hpa2
        walk_at "GO"
        refine w_iteD (fun hr0 => ?_) (fun hr0 => ?_)
        · walk_at "GO"
          refine ⟨B.p, 4, rfl, j3.pool, by omega, fun r4 G4 r40 r41 f4 hP4 => ?_⟩
          have j4 := j3.draw f4 hP4
          have hpa4 := (TupS.fr f4 j3.pool.nt) _ _ hpa3
          walk_at "GO"
          refine ⟨B, s, r4, rfl, j4, by omega, by omega, fun c G4b q2 j4b tu4 ec hq2 _ => ?_⟩
          walk_at "GO"
          refine w_catT (tu4 _ _ hpa4) ec (by rw [List.length_map, List.length_map, natI_len, natI_len]; omega) fun d G5 s5 ed => ?_
          rw [natI_catV] at ed
          have j5 := j4b.same s5
          have hlq : (p ++ q2).length ≤ 90 := by rw [List.length_append, hq2]; omega
          generalize p ++ q2 = qq at ed hlq
          walk_at "GO"
          obtain ⟨dt6, ap6, pvs6, ku6, kd6, t06, _⟩ := id j5.tree
          unfold TreeF at t06
          have hST : Sq false K G5 d ((natI qq).map V.int) := Sq.tup ed
          walk_at "GO"
          refine ⟨B.X, B.t, B.st, B.au, B.ad, B.ac, B.ak, d, false, s.d, s.size, s.cs, s.kv, qq, rfl, j5.tree, j5.store, j5.tok, by omega, ed, by omega, by omega, fun v G7 f7 T7 v7 => ?_⟩
          have p7 := j5.jp.partS (s' := { s with d := s.d.use (begD s.size s.d.under qq) }) f7 (by simp) T7 (j5.store_of f7 (by simp))
          have n6 : ∀ c ∈ [B.t, B.ad], NTup (G5 c) := j5.nt fun c hc => .inr (.inr (.inl (by revert hc; simp; rintro (rfl | rfl) <;> simp)))
          have ed7 := f7.at (tup_not n6 ed) ed
          have hst7 : G7 B.ls = some (.dK (StF s.size s.many s.letters B.tr B.us B.ho B.cl B.mi)) := p7.law.st
          clear hST
          walk_at "GO"
          refine ⟨B, s, d, qq, rfl, p7.law, j5.tok, by omega, ed7, by omega, by omega, fun v2 G8 f8 L8 v8 => ?_⟩
          have p8 := p7.lawS f8 (by simp) L8
          have n7 : ∀ c ∈ [B.us, B.cl], NTup (G7 c) := p7.nt fun c hc => .inr (.inl (by revert hc; simp; rintro (rfl | rfl) <;> simp))
          have v7' := RVec.mono _ _ _ _ f8 (rep_hs RVec.tup v7 n7)
          have hbl : ((begD s.size s.d.under qq).map fun p => (((s.d.under p).getD 0 : Nat) : Int)).length ≤ 100000 := by
            rw [List.length_map]
            have h1 : (begD s.size s.d.under qq).length ≤ qq.length / s.size := by
              unfold begD
              exact Nat.le_trans (List.takeWhile_sublist _).length_le (by rw [List.length_map, List.length_range]; exact Nat.le_refl _)
            have := Nat.div_le_self qq.length s.size
            omega
          refine ⟨_, _, rfl, SmB.vec (n := 5) hbl v7' v8, ?_⟩
          walk_at "GO"
          have j9 : JL K T.c_Tree T.c_Store G8 B { s with d := s.d.use (begD s.size s.d.under qq), N := s.N + qq.length } := ⟨p8.pool, p8.law, p8.tree, p8.store, j5.sok, j5.tok.use (j5.tok.begs qq), j5.dPL, j5.dPT, j5.dPS, j5.dLT, j5.dLS, j5.dTS, j5.many, j5.lets, j5.und, j5.cnt, j5.minb, j5.long, by have := j5.few; show s.mine.length ≤ s.N + qq.length; omega⟩
          exact ⟨_, _, _, _, { s with d := s.d.use (begD s.size s.d.under qq), N := s.N + qq.length }, rfl, j9, hne, h1, hmine, hcl, by show s.N + qq.length ≤ _; omega⟩
        · have hst3 := j3.law.st
          have hho3 := j3.law.hold
          walk_at "GO"
          refine ⟨B.ho, _, rfl, .inl (Sq.lst hho3), rfl, flat_ints _, ?_⟩
          rw [if_neg (by decide), in_zero]
          by_cases hz : (0 : Int) ∈ s.cs
          · rw [decide_eq_true hz]
            walk_at "GO"
            rename_i l4 G4 hl4 s4 e4
            have j4 := j3.same s4
            have hpa4 := s4 _ _ hpa3
            refine ⟨B.p, 3, rfl, j4.pool, by omega, fun r5 G5 r50 r51 f5 hP5 => ?_⟩
            have j5 := j4.draw f5 hP5
            have hpa5 := (TupS.fr f5 j4.pool.nt) _ _ hpa4
            have e5 := f5 _ _ (j3.pool.ne hl4) e4
            refine w_ixI (b := true) (ns := [0, 0, 2]) (Sq.lst e5) r50 (by show r5 < (3 : Int); omega) ?_
            obtain ⟨z, hz2, hz1⟩ : ∃ z : Nat, nth [0, 0, 2] r5 = (z : Int) ∧ (z = 0 ∨ z = 2) := by
              have hm := nth_mem (ns := [0, 0, 2]) r50 (by show r5 < (3 : Int); omega)
              simp only [List.mem_cons, List.not_mem_nil, or_false] at hm
              exact ⟨(nth [0, 0, 2] r5).toNat, by omega, by omega⟩
            rw [hz2]
            have hcm : CMul (s.size : Int) (z : Int) := .inr ⟨by omega, by omega⟩
            have hmul : (s.size : Int) * (z : Int) = ((z * s.size : Nat) : Int) := by push_cast; exact Int.mul_comm _ _
            have hzs : z * s.size ≤ 16 := by
              obtain rfl | rfl := hz1
              · omega
              · omega
            have hSp : Sq false K G5 pa ((natI p).map V.int) := Sq.tup hpa5
            have hnp := natI_len p
            clear e4 e5 hst3 hho3
            walk_at "GO"
            rw [hmul]
            refine w_cut (fun σ H' => ∃ (b : Addr) (q : Path) (m : Nat) (y7 y8 : Option V), σ = [some (.ref a), some (.ref B.p), some (.ref B.ls), some (.int (i : Int)), some (.ref B.st), some (.ref B.t), some (.ref b), y7, y8, none, none] ∧ JL K T.c_Tree T.c_Store H' B s ∧ H' b = some (.tup ((natI q).map V.int)) ∧ q.length = (m + 1) * s.size ∧ q.length ≤ 80) ?_ ?_
            · walk_at "GO"
              refine w_iteD (fun hle => ?_) (fun hle => ?_)
              · walk_at "GO"
                refine ⟨B, s, _, rfl, j5, by omega, by omega, fun c G6 q2 j6 tu6 ec hq2 _ => ?_⟩
                rw [Int.toNat_natCast] at hq2
                walk_at "GO"
                refine w_catT (tu6 _ _ hpa5) ec (by rw [List.length_map, List.length_map, natI_len, natI_len]; omega) fun d G7 s7 ed => ?_
                rw [natI_catV] at ed
                walk_at "GO"
                exact ⟨d, p ++ q2, kp + z, _, _, rfl, j6.same s7, ed, by rw [List.length_append, hkp, hq2, ← Nat.add_mul, Nat.add_right_comm], by rw [List.length_append, hq2]; omega⟩
              · walk_at "GO"
                exact ⟨pa, p, kp, _, _, rfl, j5, hpa5, hkp, hp80⟩
            · clear j5 hpa5 hSp
              rintro σ G8 ⟨b, q, m, z7, z8, rfl, j8, eb8, hq8, hql8⟩
              walk_at "GO"
              refine ⟨B, s, b, q, false, m, rfl, j8, eb8, hq8, by omega, by omega, by omega, hz, fun s' G9 j9 st9 hm9 _ => ?_⟩
              obtain ⟨jj, hd9, hjj⟩ := st9.put
              have g1 := st9.N
              have g2 := st9.len
              walk_at "GO"
              exact ⟨_, _, _, _, s', rfl, j9, by rw [hd9]; exact put_ne hne, fun b => by rw [hd9]; exact put_ones j8.tok hjj h1 b, (hm9 rfl).trans hmine, g2.trans hcl, by omega⟩
          · rw [decide_eq_false hz]
            walk_at "GO"
            exact ⟨_, _, _, _, s, rfl, j3, hne, h1, hmine, hcl, by omega⟩
      · clear j1 jG
        rintro σ G ⟨y3, y6, y7, y8, s, rfl, jG, hne, h1, hmine, hcl, hN⟩
        have hpz := few_paths jG.tok h1 jG.und
        have hpp := List.length_pos_iff.mpr hne
        have hsz := jG.sok.size
        have hst := jG.law.st
        obtain ⟨kt, ht, hk⟩ := jG.law.tree
        walk_at "GO"
        refine w_sortedDict ht hk jG.tok.dom jG.tok.asc jG.tok.nod (treeOk_ne jG.tok) fun l G1 ys hl s1 e1 r1 => ?_
        have j1 := jG.same s1
        have hlp := jG.pool.ne hl
        have hyl := r1.1
        have hSl : Sq true K G1 l ys := Sq.lst e1
        have hst1 := j1.law.st
        walk_at "GO"
        refine ⟨B.p, _, rfl, j1.pool, by omega, fun m G2 m0 m1 f2 hP2 => ?_⟩
        have j2 := j1.draw f2 hP2
        have e2 := f2 _ _ hlp e1
        obtain ⟨im, rfl, hm⟩ : ∃ im : Nat, m = (im : Int) ∧ im < ys.length := ⟨m.toNat, by omega, by omega⟩
        have hy : ys[im]? = some (ys[im]'hm) := List.getElem?_eq_getElem hm
        generalize ys[im]'hm = y at hy
        obtain ⟨p, hp⟩ : ∃ p, s.d.paths[im]? = some p := ⟨_, List.getElem?_eq_getElem (by omega)⟩
        obtain ⟨pa, rfl, hpa⟩ := r1.2 im y p hy hp
        have hpa2 := (TupS.fr f2 j1.pool.nt) _ _ hpa
        have hpm := List.mem_of_getElem? hp
        obtain ⟨blk, hblk⟩ := Option.isSome_iff_exists.mp ((j2.tok.dom p).mpr hpm)
        have hbl := j2.und p blk hblk
        clear hst ht hSl hst1
        refine w_ix (Sq.lst e2) (atI_nat hy) ?_
        clear e1 e2
        obtain ⟨kt2, t2, k2⟩ := j2.law.tree
        have hpk := hpa2
        rw [← keyI_V] at hpk
        have gt := DGet.t t2 hpk
        rw [k2.val, hblk] at gt
        refine ⟨B.tr, .int (blk : Int), rfl, gt, ?_⟩
        have c0 := j2.cnt blk hbl
        rw [hmine] at c0
        have ht1 := treeCnt_pos j2.tok hblk
        have ht2 := h1 blk
        have hb1 : nth s.cs ((blk : Nat) : Int) = 1 := by simp at c0; omega
        have hh : heldD s.cs (some (blk : Int)) = some blk := heldD_of hbl (by omega)
        obtain ⟨dy, g2, _⟩ := id j2.store
        unfold StoreF at g2
        clear gt t2
        walk_at "GO"
        refine ⟨B.st, B.ac, B.ak, s.size, .int (blk : Int), some (blk : Int), s.cs, s.kv, rfl, j2.store, rfl, fun b' hb' G5 f5 I5 => ?_, fun z => by rw [hh] at z; cases z⟩
        obtain rfl : blk = b' := Option.some.inj (hh.symm.trans hb')
        rw [hb1] at I5
        have p5 := j2.jp.storeS (S := [B.ac, B.ak]) (s' := { s with cs := s.cs.set blk (1 + 1) }) (FrS.of2 f5 (by simp) (by simp)) (fun _ h => h) rfl I5
        have hho5 := p5.law.hold
        have hst5 := p5.law.st
        clear g2
        walk_at "GO"
        refine w_setI hho5 (by omega) (by omega) ?_
        rw [Int.toNat_natCast]
        have p6 := p5.lawS (S := [B.ho]) ((FrS.same (Same.refl _)).upd _ (by simp)) (by simp) (p5.law.setCs (s.cs.set blk 2))
        generalize upd G5 B.ho (.lst ((s.cs.set blk 2).map V.int)) = G6 at p6 ⊢
        have hln : (s.cs.set blk 2).length = s.cs.length := List.length_set ..
        obtain ⟨S1, eS1⟩ : ∃ S1 : SD, S1 = { s with cs := s.cs.set blk 2 } := ⟨_, rfl⟩
        have q6 : J22 K T.c_Tree T.c_Store G6 B S1 (fun b => if b = blk ∧ True then 1 else 0) := by
          subst eS1
          refine ⟨p6, j2.sok.hold' hbl hb1, j2.tok, hln.trans j2.many, fun p b e => by show b < (s.cs.set _ _).length; rw [hln]; exact j2.und p b e, fun b hb => ?_, j2.long⟩
          have hb : b < s.cs.length := by
            have hb : b < (s.cs.set blk 2).length := hb
            rw [hln] at hb
            exact hb
          show nth (s.cs.set blk 2) ((b : Nat) : Int) = (treeCnt s.d b : Int) + ((if b = blk ∧ True then 1 else 0 : Nat) : Int)
          have c1 := j2.cnt b hb
          rw [hmine] at c1
          rw [nthS hbl]
          by_cases e : b = blk
          · subst e
            rw [if_pos rfl, if_pos ⟨rfl, trivial⟩]
            have : treeCnt s.d b = 1 := by omega
            omega
          · rw [if_neg e, if_neg fun z => e z.1]
            simpa using c1
        have hz1 : ∀ b, treeCnt S1.d b ≤ 1 := by rw [eS1]; exact h1
        have hlc1 : S1.cs.length = 12 := by rw [eS1]; exact hln.trans hcl
        have hpz1 : S1.d.paths.length ≤ 12 := by rw [eS1]; exact hcl ▸ hpz
        rw [hcl] at hbl
        clear eS1 p6 p5 hho5 hst5 c0 hh hb1
        walk_at "GO"
        refine ⟨B.p, 5, rfl, q6.jp.pool, by omega, fun ff G7 ff0 ff1 f7 hP7 => ?_⟩
        obtain ⟨fi, rfl⟩ : ∃ fi : Nat, ff = (fi : Int) := ⟨ff.toNat, by omega⟩
        have p7 := q6.jp.draw f7 hP7
        have q7 : J22 K T.c_Tree T.c_Store G7 B S1 (fun b => if b = blk ∧ 0 ≤ fi then 1 else 0) := ⟨p7, q6.sok, q6.tok, q6.many, q6.und, fun b hb => by
          rw [q6.cnt b hb]
          simp, q6.long⟩
        clear p7 q6
        walk_at "GO"
        refine l_range (fun i σ H' => ∃ (y3 : Option V) (s : SD), σ = [some (.ref a), some (.ref B.p), some (.ref B.ls), y3, some (.ref B.st), some (.ref B.t), y6, some (.ref l), y8, some (.int (blk : Int)), some (.int (fi : Int))] ∧ J22 K T.c_Tree T.c_Store H' B s (fun b => if b = blk ∧ i ≤ fi then 1 else 0) ∧ (∀ b, treeCnt s.d b ≤ 1) ∧ s.cs.length = 12 ∧ s.d.paths.length ≤ 12 - (i - fi)) (by omega) (by omega) ⟨_, S1, rfl, q7, hz1, hlc1, by omega⟩ ?_ ?_
        · clear q7 hz1 hlc1 hpz1
          rintro i σ G hi ⟨y3, s, rfl, q, h1, hcl, hpl⟩
          walk_at "GO"
          refine w_cut (fun σ H' => ∃ (s' : SD), σ = [some (.ref a), some (.ref B.p), some (.ref B.ls), some (.int (i : Int)), some (.ref B.st), some (.ref B.t), y6, some (.ref l), y8, some (.int (blk : Int)), some (.int (fi : Int))] ∧ J22 K T.c_Tree T.c_Store H' B s' (fun b => if b = blk ∧ i < fi then 1 else 0) ∧ s'.d = s.d ∧ s'.cs.length = 12) ?_ ?_
          · walk_at "GO"
            refine w_iteD (fun he => ?_) (fun he => ?_)
            · obtain rfl : i = fi := by omega
              have c0 := q.cnt blk (by omega)
              rw [if_pos ⟨rfl, Nat.le_refl _⟩] at c0
              have hh : heldD s.cs (some (blk : Int)) = some blk := heldD_of (by omega) (by omega)
              obtain ⟨dy, g2, _⟩ := id q.jp.store
              unfold StoreF at g2
              walk_at "GO"
              refine ⟨B.st, B.ac, B.ak, s.size, .int (blk : Int), some (blk : Int), s.cs, s.kv, rfl, q.jp.store, q.sok, rfl, fun b' hb' G2 f2 I2 => ?_, fun z => by rw [hh] at z; cases z⟩
              obtain rfl : blk = b' := Option.some.inj (hh.symm.trans hb')
              have p2 := q.jp.storeS (S := [B.ac, B.ak]) (s' := { s with cs := s.cs.set blk (nth s.cs ((blk : Nat) : Int) - 1), kv := relK s.cs s.kv blk }) (FrS.of2 f2 (by simp) (by simp)) (fun _ h => h) rfl I2
              clear g2
              walk_at "GO"
              refine ⟨B, _, blk, rfl, p2.law, by show blk < s.cs.length; omega, fun G3 f3 L3 => ?_⟩
              have p3 := p2.lawS f3 (by simp) L3
              walk_at "GO"
              have hln : (s.cs.set blk (nth s.cs ((blk : Nat) : Int) - 1)).length = s.cs.length := List.length_set ..
              refine ⟨{ s with cs := s.cs.set blk (nth s.cs ((blk : Nat) : Int) - 1), kv := relK s.cs s.kv blk }, rfl, ⟨⟨p3.pool, p3.law.setKv _, p3.tree, p3.store, p3.dPL, p3.dPT, p3.dPS, p3.dLT, p3.dLS, p3.dTS⟩, q.sok.release (by omega) (by omega), q.tok, hln.trans q.many, fun p b e => by show b < (s.cs.set _ _).length; rw [hln]; exact q.und p b e, fun b hb => ?_, q.long⟩, rfl, hln.trans hcl⟩
              have hb : b < s.cs.length := by
                have hb : b < (s.cs.set blk (nth s.cs ((blk : Nat) : Int) - 1)).length := hb
                rw [hln] at hb
                exact hb
              show nth (s.cs.set blk (nth s.cs ((blk : Nat) : Int) - 1)) ((b : Nat) : Int) = (treeCnt s.d b : Int) + ((if b = blk ∧ i < i then 1 else 0 : Nat) : Int)
              have c1 := q.cnt b hb
              rw [nthS (by omega), if_neg (fun z : b = blk ∧ i < i => absurd z.2 (by omega))]
              by_cases e : b = blk
              · subst e
                rw [if_pos rfl]
                omega
              · rw [if_neg fun z => e z.1] at c1
                rw [if_neg e]
                exact c1
            · walk_at "GO"
              refine ⟨s, rfl, ⟨q.jp, q.sok, q.tok, q.many, q.und, fun b hb => ?_, q.long⟩, rfl, hcl⟩
              rw [q.cnt b hb]
              have : (b = blk ∧ i ≤ fi) ↔ (b = blk ∧ i < fi) := and_congr Iff.rfl (by omega)
              simp only [this]
          · rintro σ G2 ⟨s', rfl, q2, hd2, hcl2⟩
            rw [← hd2] at h1 hpl
            have hlong : ∀ p ∈ s'.d.paths, p.length ≤ 1000 := fun p hp => by have := q2.long p hp; omega
            have hsz := q2.sok.size
            obtain ⟨dt, ap, pvs0, ku, kd, t0, _⟩ := id q2.jp.tree
            unfold TreeF at t0
            clear hd2
            walk_at "GO"
            refine ⟨B.X, B.t, B.st, B.au, B.ad, B.ac, B.ak, s'.d, s'.size, s'.cs, s'.kv, rfl, q2.jp.tree, q2.jp.store, q2.sok, q2.tok, hlong, by omega, q2.und, by simp, by simp, q2.jp.allocd, fun hn G3 s3 => ?_, fun x b hx hb G3 f3 T3 I3 => ?_⟩
            · have q3 := q2.same s3
              clear t0
              walk_at "GO"
              refine ⟨B, s', rfl, q3.jp.law, q3.tok, q3.und, hlong, by omega, fun _ G4 s4 => ?_, fun x b hx => by rw [hn] at hx; cases hx⟩
              have q4 := q3.same s4
              refine ⟨_, _, rfl, SmB.bl, ?_⟩
              walk_at "GO"
              refine ⟨B, s', rfl, q4.jx, by omega, fun G5 s5 => ?_⟩
              have q5 := q4.same s5
              walk_at "GO"
              refine ⟨_, s', rfl, q5, h1, hcl2, ?_⟩
              by_cases hp0 : s'.d.paths = []
              · rw [hp0]; exact Nat.zero_le _
              · by_cases hif : i < fi
                · omega
                · exfalso
                  obtain ⟨x, hx⟩ := drop_some (cs := s'.cs) q5.tok q5.long hp0 fun p hp => by
                    obtain ⟨b, hb⟩ := Option.isSome_iff_exists.mp ((q5.tok.dom p).mpr hp)
                    have hbb := q5.und p b hb
                    have c1 := q5.cnt b hbb
                    rw [if_neg fun z : b = blk ∧ i < fi => hif z.2] at c1
                    have ht1 := treeCnt_pos q5.tok hb
                    have ht2 := h1 b
                    unfold aloneP
                    rw [hb]
                    exact decide_eq_true (show nth s'.cs ((b : Nat) : Int) = 1 by omega)
                  rw [hn] at hx; cases hx
            · have p3 := q2.jp.partS (s' := s'.del x b) f3 (by
                simp only [List.mem_cons, List.not_mem_nil, or_false]
                rintro c (rfl | rfl | rfl | rfl | rfl) <;> simp) T3 I3
              clear t0
              walk_at "GO"
              refine ⟨B, s', rfl, p3.law, q2.tok, q2.und, hlong, by omega, fun hn => by rw [hn] at hx; (cases hx), fun x' b' hx' hb' G4 f4 L4 => ?_⟩
              obtain rfl : x = x' := Option.some.inj (hx.symm.trans hx')
              obtain rfl : b = b' := Option.some.inj (hb.symm.trans hb')
              have p4 := p3.lawS f4 (by simp) L4
              have q4 : J22 K T.c_Tree T.c_Store G4 B (s'.del x b) (fun b => if b = blk ∧ i < fi then 1 else 0) := q2.dropped hx hb ⟨p4.pool, p4.law.setKv _, p4.tree, p4.store, p4.dPL, p4.dPT, p4.dPS, p4.dLT, p4.dLS, p4.dTS⟩
              have hxm := (goesP_mem (dropP_mem hx)).1
              have hdl := del_len q2.tok hxm
              refine ⟨_, _, rfl, SmB.bl, ?_⟩
              walk_at "GO"
              refine ⟨B, s'.del x b, rfl, q4.jx, by show (s'.d.del x).paths.length ≤ _; omega, fun G5 s5 => ?_⟩
              walk_at "GO"
              refine ⟨_, s'.del x b, rfl, q4.same s5, fun c => ?_, ?_, ?_⟩
              · have := h1 c
                have h2 := treeCnt_del q2.tok hxm c
                show treeCnt (s'.d.del x) c ≤ 1
                omega
              · show (s'.cs.set _ _).length = 12
                rw [List.length_set]; exact hcl2
              · show (s'.d.del x).paths.length ≤ _
                omega
        · clear q7 hz1 hlc1 hpz1
          rintro σ G ⟨y3, s, rfl, q, h1, hcl, hpl⟩
          have hp0 : s.d.paths = [] := List.length_eq_zero_iff.mp (by omega)
          have hfree : freeOf s.cs = 12 := all_zero hcl fun b hb => by
            have c1 := q.cnt b (by omega)
            rw [if_neg fun z : b = blk ∧ (17 : Int).toNat ≤ fi => absurd z.2 (by show ¬ 17 ≤ fi; omega)] at c1
            have : treeCnt s.d b = 0 := by unfold treeCnt; rw [hp0]; rfl
            rw [c1, this]; rfl
          obtain ⟨dt, ap, pvs0, ku, kd, t0, _⟩ := id q.jp.tree
          have sI := q.jp.store
          obtain ⟨dy, g0, _⟩ := id sI
          unfold StoreF at g0
          walk_at "GO"
          refine ⟨B.t, dt, _, rfl, t0, B.X, B.t, B.st, B.au, B.ad, s.d, rfl, q.jp.tree, s.d.paths.length, rfl, by omega, ?_⟩
          rw [hp0]
          walk_at "GO"
          refine ⟨.int 0, .int 0, rfl, SmB.int, true, rfl, ?_⟩
          rw [if_pos rfl]
          walk_at "GO"
          refine ⟨B.st, B.ac, B.ak, s.size, s.cs, s.kv, rfl, sI, q.sok, fun H1 s1 => ?_⟩
          rw [hfree]
          walk_at "GO"
          refine ⟨.int 12, .int 12, rfl, SmB.int, ?_⟩
          exact k H1

end
theorem all_mk {l : PySem.W.OpenLaw} {w : World} {K : PySem.W.Frag} {h : Heap} {mg : Str → Option Value} {fa CTree CStore CInvalidNumber CNoRoom CNotAlone CNotHeld fu_wall fTree___init__ fTree_beginnings fTree_use fTree_known fTree_put fTree_ends_of fTree_oldest_of fTree_drop fTree___len__ fTree___iter__ fInvalidNumber___init__ fNoRoom___init__ fNotHeld___init__ fNotAlone___init__ fis_between fStore___init__ fStore_free PStore_free fStore_check_held fStore_check_alone fStore_take fStore_hold fStore_release fStore_put_row fStore_holders fL_pool fL_draw fL_same fL_new fL_path fL_letters fL_row fL_uses fL_known fL_release fL_dropped fL_as fL_filled fL_shown fL_put flaw : Addr} (X : K.In h) (G : h.Ns mainGlobals mg) (hfa : mg "law" = some (.ref fa))
    {odu_wall anu_wall odTree___init__ anTree___init__ odTree_beginnings anTree_beginnings odTree_use anTree_use odTree_known anTree_known odTree_put anTree_put odTree_ends_of anTree_ends_of odTree_oldest_of anTree_oldest_of odTree_drop anTree_drop odTree___len__ anTree___len__ odTree___iter__ anTree___iter__ odInvalidNumber___init__ anInvalidNumber___init__ odNoRoom___init__ anNoRoom___init__ odNotHeld___init__ anNotHeld___init__ odNotAlone___init__ anNotAlone___init__ odis_between anis_between odStore___init__ anStore___init__ odStore_free anStore_free odStore_check_held anStore_check_held odStore_check_alone anStore_check_alone odStore_take anStore_take odStore_hold anStore_hold odStore_release anStore_release odStore_put_row anStore_put_row odStore_holders anStore_holders odL_pool anL_pool odL_draw anL_draw odL_same anL_same odL_new anL_new odL_path anL_path odL_letters anL_letters odL_row anL_row odL_uses anL_uses odL_known anL_known odL_release anL_release odL_dropped anL_dropped odL_as anL_as odL_filled anL_filled odL_shown anL_shown odL_put anL_put odlaw anlaw : Option Addr} {slu_wall slTree___init__ slTree_beginnings slTree_use slTree_known slTree_put slTree_ends_of slTree_oldest_of slTree_drop slTree___len__ slTree___iter__ slInvalidNumber___init__ slNoRoom___init__ slNotHeld___init__ slNotAlone___init__ slis_between slStore___init__ slStore_free slStore_check_held slStore_check_alone slStore_take slStore_hold slStore_release slStore_put_row slStore_holders slL_pool slL_draw slL_same slL_new slL_path slL_letters slL_row slL_uses slL_known slL_release slL_dropped slL_as slL_filled slL_shown slL_put sllaw : Array (Option Value)} {ocu_wall kVu_wall dcu_wall pmu_wall cdu_wall ctu_wall ocTree___init__ kVTree___init__ dcTree___init__ pmTree___init__ cdTree___init__ ctTree___init__ ocTree_beginnings kVTree_beginnings dcTree_beginnings pmTree_beginnings cdTree_beginnings ctTree_beginnings ocTree_use kVTree_use dcTree_use pmTree_use cdTree_use ctTree_use ocTree_known kVTree_known dcTree_known pmTree_known cdTree_known ctTree_known ocTree_put kVTree_put dcTree_put pmTree_put cdTree_put ctTree_put ocTree_ends_of kVTree_ends_of dcTree_ends_of pmTree_ends_of cdTree_ends_of ctTree_ends_of ocTree_oldest_of kVTree_oldest_of dcTree_oldest_of pmTree_oldest_of cdTree_oldest_of ctTree_oldest_of ocTree_drop kVTree_drop dcTree_drop pmTree_drop cdTree_drop ctTree_drop ocTree___len__ kVTree___len__ dcTree___len__ pmTree___len__ cdTree___len__ ctTree___len__ ocTree___iter__ kVTree___iter__ dcTree___iter__ pmTree___iter__ cdTree___iter__ ctTree___iter__ ocInvalidNumber___init__ kVInvalidNumber___init__ dcInvalidNumber___init__ pmInvalidNumber___init__ cdInvalidNumber___init__ ctInvalidNumber___init__ ocNoRoom___init__ kVNoRoom___init__ dcNoRoom___init__ pmNoRoom___init__ cdNoRoom___init__ ctNoRoom___init__ ocNotHeld___init__ kVNotHeld___init__ dcNotHeld___init__ pmNotHeld___init__ cdNotHeld___init__ ctNotHeld___init__ ocNotAlone___init__ kVNotAlone___init__ dcNotAlone___init__ pmNotAlone___init__ cdNotAlone___init__ ctNotAlone___init__ ocis_between kVis_between dcis_between pmis_between cdis_between ctis_between ocStore___init__ kVStore___init__ dcStore___init__ pmStore___init__ cdStore___init__ ctStore___init__ ocStore_free kVStore_free dcStore_free pmStore_free cdStore_free ctStore_free ocStore_check_held kVStore_check_held dcStore_check_held pmStore_check_held cdStore_check_held ctStore_check_held ocStore_check_alone kVStore_check_alone dcStore_check_alone pmStore_check_alone cdStore_check_alone ctStore_check_alone ocStore_take kVStore_take dcStore_take pmStore_take cdStore_take ctStore_take ocStore_hold kVStore_hold dcStore_hold pmStore_hold cdStore_hold ctStore_hold ocStore_release kVStore_release dcStore_release pmStore_release cdStore_release ctStore_release ocStore_put_row kVStore_put_row dcStore_put_row pmStore_put_row cdStore_put_row ctStore_put_row ocStore_holders kVStore_holders dcStore_holders pmStore_holders cdStore_holders ctStore_holders ocL_pool kVL_pool dcL_pool pmL_pool cdL_pool ctL_pool ocL_draw kVL_draw dcL_draw pmL_draw cdL_draw ctL_draw ocL_same kVL_same dcL_same pmL_same cdL_same ctL_same ocL_new kVL_new dcL_new pmL_new cdL_new ctL_new ocL_path kVL_path dcL_path pmL_path cdL_path ctL_path ocL_letters kVL_letters dcL_letters pmL_letters cdL_letters ctL_letters ocL_row kVL_row dcL_row pmL_row cdL_row ctL_row ocL_uses kVL_uses dcL_uses pmL_uses cdL_uses ctL_uses ocL_known kVL_known dcL_known pmL_known cdL_known ctL_known ocL_release kVL_release dcL_release pmL_release cdL_release ctL_release ocL_dropped kVL_dropped dcL_dropped pmL_dropped cdL_dropped ctL_dropped ocL_as kVL_as dcL_as pmL_as cdL_as ctL_as ocL_filled kVL_filled dcL_filled pmL_filled cdL_filled ctL_filled ocL_shown kVL_shown dcL_shown pmL_shown cdL_shown ctL_shown ocL_put kVL_put dcL_put pmL_put cdL_put ctL_put oclaw kVlaw dclaw pmlaw cdlaw ctlaw : Value}
    {nmInvalidNumber qnInvalidNumber : Str} {NInvalidNumber : Addr} {bsInvalidNumber subInvalidNumber : List Value} {snInvalidNumber : List Str} {abInvalidNumber : Bool} {colInvalidNumber : Option Bool} {ddInvalidNumber : Option Addr} {m0InvalidNumber m1InvalidNumber m2InvalidNumber m3InvalidNumber m5InvalidNumber : Option Value}
    {nmNoRoom qnNoRoom : Str} {NNoRoom : Addr} {bsNoRoom subNoRoom : List Value} {snNoRoom : List Str} {abNoRoom : Bool} {colNoRoom : Option Bool} {ddNoRoom : Option Addr} {m0NoRoom m1NoRoom m2NoRoom m3NoRoom m5NoRoom : Option Value}
    {nmNotAlone qnNotAlone : Str} {NNotAlone : Addr} {bsNotAlone subNotAlone : List Value} {snNotAlone : List Str} {abNotAlone : Bool} {colNotAlone : Option Bool} {ddNotAlone : Option Addr} {m0NotAlone m1NotAlone m2NotAlone m3NotAlone m5NotAlone : Option Value}
    {nmNotHeld qnNotHeld : Str} {NNotHeld : Addr} {bsNotHeld subNotHeld : List Value} {snNotHeld : List Str} {abNotHeld : Bool} {colNotHeld : Option Bool} {ddNotHeld : Option Addr} {m0NotHeld m1NotHeld m2NotHeld m3NotHeld m5NotHeld : Option Value}
    (aCTree : PySem.W.nsIn K mainGlobals "Tree" = some (some (.ref CTree))) (pgTree : PySem.W.plainGet K CTree Str.empty = true) (hdTree : PySem.W.hasDictIn K CTree = true) (poTree : PySem.W.plainOver K CTree = true) (saTree : PySem.W.findIn K (.ref CTree) "__setattr__" = some (some (.builtin "object.__setattr__"))) (mkTree : PySem.W.makesIn K CTree = true) (kcTree : PySem.W.keepIn K (.ref CTree) = true)
    (nTree_store : PySem.W.findIn K (.ref CTree) "store" = some none)
    (nTree_paths : PySem.W.findIn K (.ref CTree) "paths" = some none)
    (nTree_under : PySem.W.findIn K (.ref CTree) "under" = some none)
    (nTree_used : PySem.W.findIn K (.ref CTree) "used" = some none)
    (nTree_clock : PySem.W.findIn K (.ref CTree) "clock" = some none)
    (aCStore : PySem.W.nsIn K mainGlobals "Store" = some (some (.ref CStore))) (pgStore : PySem.W.plainGet K CStore Str.empty = true) (hdStore : PySem.W.hasDictIn K CStore = true) (poStore : PySem.W.plainOver K CStore = true) (saStore : PySem.W.findIn K (.ref CStore) "__setattr__" = some (some (.builtin "object.__setattr__"))) (mkStore : PySem.W.makesIn K CStore = true) (kcStore : PySem.W.keepIn K (.ref CStore) = true)
    (nStore_many : PySem.W.findIn K (.ref CStore) "many" = some none)
    (nStore_size : PySem.W.findIn K (.ref CStore) "size" = some none)
    (nStore_counts : PySem.W.findIn K (.ref CStore) "counts" = some none)
    (nStore_kept : PySem.W.findIn K (.ref CStore) "kept" = some none)
    (aCInvalidNumber : PySem.W.nsIn K mainGlobals "InvalidNumber" = some (some (.ref CInvalidNumber))) (eiInvalidNumber : PySem.W.isClsIn K CInvalidNumber = true) (etInvalidNumber : PySem.W.typeIn K (.ref CInvalidNumber) = some (.type "type")) (ebInvalidNumber : PySem.W.subIn K (.ref CInvalidNumber) (.type "BaseException") = some true) (ehInvalidNumber : PySem.W.hasDictIn K CInvalidNumber = true)
    (aCNoRoom : PySem.W.nsIn K mainGlobals "NoRoom" = some (some (.ref CNoRoom))) (eiNoRoom : PySem.W.isClsIn K CNoRoom = true) (etNoRoom : PySem.W.typeIn K (.ref CNoRoom) = some (.type "type")) (ebNoRoom : PySem.W.subIn K (.ref CNoRoom) (.type "BaseException") = some true) (ehNoRoom : PySem.W.hasDictIn K CNoRoom = true)
    (aCNotAlone : PySem.W.nsIn K mainGlobals "NotAlone" = some (some (.ref CNotAlone))) (eiNotAlone : PySem.W.isClsIn K CNotAlone = true) (etNotAlone : PySem.W.typeIn K (.ref CNotAlone) = some (.type "type")) (ebNotAlone : PySem.W.subIn K (.ref CNotAlone) (.type "BaseException") = some true) (ehNotAlone : PySem.W.hasDictIn K CNotAlone = true)
    (aCNotHeld : PySem.W.nsIn K mainGlobals "NotHeld" = some (some (.ref CNotHeld))) (eiNotHeld : PySem.W.isClsIn K CNotHeld = true) (etNotHeld : PySem.W.typeIn K (.ref CNotHeld) = some (.type "type")) (ebNotHeld : PySem.W.subIn K (.ref CNotHeld) (.type "BaseException") = some true) (ehNotHeld : PySem.W.hasDictIn K CNotHeld = true)
    {tKMOST_BLOCKS : Tok} (aKMOST_BLOCKS : PySem.W.nsIn K mainGlobals "MOST_BLOCKS" = some (some (.int 60 tKMOST_BLOCKS)))
    {tKMOST_ROWS : Tok} (aKMOST_ROWS : PySem.W.nsIn K mainGlobals "MOST_ROWS" = some (some (.int 8 tKMOST_ROWS)))
    (au_wall : PySem.W.nsIn K mainGlobals "_wall" = some (some (.ref fu_wall))) (lu_wall : K.lookup fu_wall = some ⟨ocu_wall, odu_wall, .func (PySem.W.fnOf "_wall" "_wall" (defArgs s_u_wall) (defBody s_u_wall) (defScope s_u_wall) .none kVu_wall dcu_wall pmu_wall anu_wall cdu_wall ctu_wall), slu_wall⟩) (cu_wall : PySem.W.codeIn K cdu_wall "_wall" = true) (ku_wall : PySem.W.keepIn K (.ref fu_wall) = true)
    (aTree___init__ : PySem.W.findIn K (.ref CTree) "__init__" = some (some (.ref fTree___init__))) (iTree___init__ : PySem.W.isFn K (.ref fTree___init__) = true) (lTree___init__ : K.lookup fTree___init__ = some ⟨ocTree___init__, odTree___init__, .func (PySem.W.fnOf "__init__" "Tree.__init__" (defArgs s_Tree___init__) (defBody s_Tree___init__) (defScope s_Tree___init__) .none kVTree___init__ dcTree___init__ pmTree___init__ anTree___init__ cdTree___init__ ctTree___init__), slTree___init__⟩) (cTree___init__ : PySem.W.codeIn K cdTree___init__ "Tree.__init__" = true) (kTree___init__ : PySem.W.keepIn K (.ref fTree___init__) = true)
    (aTree_beginnings : PySem.W.findIn K (.ref CTree) "beginnings" = some (some (.ref fTree_beginnings))) (iTree_beginnings : PySem.W.isFn K (.ref fTree_beginnings) = true) (lTree_beginnings : K.lookup fTree_beginnings = some ⟨ocTree_beginnings, odTree_beginnings, .func (PySem.W.fnOf "beginnings" "Tree.beginnings" (defArgs s_Tree_beginnings) (defBody s_Tree_beginnings) (defScope s_Tree_beginnings) .none kVTree_beginnings dcTree_beginnings pmTree_beginnings anTree_beginnings cdTree_beginnings ctTree_beginnings), slTree_beginnings⟩) (cTree_beginnings : PySem.W.codeIn K cdTree_beginnings "Tree.beginnings" = true) (kTree_beginnings : PySem.W.keepIn K (.ref fTree_beginnings) = true)
    (aTree_use : PySem.W.findIn K (.ref CTree) "use" = some (some (.ref fTree_use))) (iTree_use : PySem.W.isFn K (.ref fTree_use) = true) (lTree_use : K.lookup fTree_use = some ⟨ocTree_use, odTree_use, .func (PySem.W.fnOf "use" "Tree.use" (defArgs s_Tree_use) (defBody s_Tree_use) (defScope s_Tree_use) .none kVTree_use dcTree_use pmTree_use anTree_use cdTree_use ctTree_use), slTree_use⟩) (cTree_use : PySem.W.codeIn K cdTree_use "Tree.use" = true) (kTree_use : PySem.W.keepIn K (.ref fTree_use) = true)
    (aTree_known : PySem.W.findIn K (.ref CTree) "known" = some (some (.ref fTree_known))) (iTree_known : PySem.W.isFn K (.ref fTree_known) = true) (lTree_known : K.lookup fTree_known = some ⟨ocTree_known, odTree_known, .func (PySem.W.fnOf "known" "Tree.known" (defArgs s_Tree_known) (defBody s_Tree_known) (defScope s_Tree_known) .none kVTree_known dcTree_known pmTree_known anTree_known cdTree_known ctTree_known), slTree_known⟩) (cTree_known : PySem.W.codeIn K cdTree_known "Tree.known" = true) (kTree_known : PySem.W.keepIn K (.ref fTree_known) = true)
    (aTree_put : PySem.W.findIn K (.ref CTree) "put" = some (some (.ref fTree_put))) (iTree_put : PySem.W.isFn K (.ref fTree_put) = true) (lTree_put : K.lookup fTree_put = some ⟨ocTree_put, odTree_put, .func (PySem.W.fnOf "put" "Tree.put" (defArgs s_Tree_put) (defBody s_Tree_put) (defScope s_Tree_put) .none kVTree_put dcTree_put pmTree_put anTree_put cdTree_put ctTree_put), slTree_put⟩) (cTree_put : PySem.W.codeIn K cdTree_put "Tree.put" = true) (kTree_put : PySem.W.keepIn K (.ref fTree_put) = true)
    (aTree_ends_of : PySem.W.findIn K (.ref CTree) "ends_of" = some (some (.ref fTree_ends_of))) (iTree_ends_of : PySem.W.isFn K (.ref fTree_ends_of) = true) (lTree_ends_of : K.lookup fTree_ends_of = some ⟨ocTree_ends_of, odTree_ends_of, .func (PySem.W.fnOf "ends_of" "Tree.ends_of" (defArgs s_Tree_ends_of) (defBody s_Tree_ends_of) (defScope s_Tree_ends_of) .none kVTree_ends_of dcTree_ends_of pmTree_ends_of anTree_ends_of cdTree_ends_of ctTree_ends_of), slTree_ends_of⟩) (cTree_ends_of : PySem.W.codeIn K cdTree_ends_of "Tree.ends_of" = true) (kTree_ends_of : PySem.W.keepIn K (.ref fTree_ends_of) = true)
    (aTree_oldest_of : PySem.W.findIn K (.ref CTree) "oldest_of" = some (some (.ref fTree_oldest_of))) (iTree_oldest_of : PySem.W.isFn K (.ref fTree_oldest_of) = true) (lTree_oldest_of : K.lookup fTree_oldest_of = some ⟨ocTree_oldest_of, odTree_oldest_of, .func (PySem.W.fnOf "oldest_of" "Tree.oldest_of" (defArgs s_Tree_oldest_of) (defBody s_Tree_oldest_of) (defScope s_Tree_oldest_of) .none kVTree_oldest_of dcTree_oldest_of pmTree_oldest_of anTree_oldest_of cdTree_oldest_of ctTree_oldest_of), slTree_oldest_of⟩) (cTree_oldest_of : PySem.W.codeIn K cdTree_oldest_of "Tree.oldest_of" = true) (kTree_oldest_of : PySem.W.keepIn K (.ref fTree_oldest_of) = true)
    (aTree_drop : PySem.W.findIn K (.ref CTree) "drop" = some (some (.ref fTree_drop))) (iTree_drop : PySem.W.isFn K (.ref fTree_drop) = true) (lTree_drop : K.lookup fTree_drop = some ⟨ocTree_drop, odTree_drop, .func (PySem.W.fnOf "drop" "Tree.drop" (defArgs s_Tree_drop) (defBody s_Tree_drop) (defScope s_Tree_drop) .none kVTree_drop dcTree_drop pmTree_drop anTree_drop cdTree_drop ctTree_drop), slTree_drop⟩) (cTree_drop : PySem.W.codeIn K cdTree_drop "Tree.drop" = true) (kTree_drop : PySem.W.keepIn K (.ref fTree_drop) = true)
    (aTree___len__ : PySem.W.findIn K (.ref CTree) "__len__" = some (some (.ref fTree___len__))) (iTree___len__ : PySem.W.isFn K (.ref fTree___len__) = true) (lTree___len__ : K.lookup fTree___len__ = some ⟨ocTree___len__, odTree___len__, .func (PySem.W.fnOf "__len__" "Tree.__len__" (defArgs s_Tree___len__) (defBody s_Tree___len__) (defScope s_Tree___len__) .none kVTree___len__ dcTree___len__ pmTree___len__ anTree___len__ cdTree___len__ ctTree___len__), slTree___len__⟩) (cTree___len__ : PySem.W.codeIn K cdTree___len__ "Tree.__len__" = true) (kTree___len__ : PySem.W.keepIn K (.ref fTree___len__) = true)
    (aTree___iter__ : PySem.W.findIn K (.ref CTree) "__iter__" = some (some (.ref fTree___iter__))) (iTree___iter__ : PySem.W.isFn K (.ref fTree___iter__) = true) (lTree___iter__ : K.lookup fTree___iter__ = some ⟨ocTree___iter__, odTree___iter__, .func (PySem.W.fnOf "__iter__" "Tree.__iter__" (defArgs s_Tree___iter__) (defBody s_Tree___iter__) (defScope s_Tree___iter__) .none kVTree___iter__ dcTree___iter__ pmTree___iter__ anTree___iter__ cdTree___iter__ ctTree___iter__), slTree___iter__⟩) (cTree___iter__ : PySem.W.codeIn K cdTree___iter__ "Tree.__iter__" = true) (kTree___iter__ : PySem.W.keepIn K (.ref fTree___iter__) = true)
    (aInvalidNumber___init__ : PySem.W.findIn K (.ref CInvalidNumber) "__init__" = some (some (.ref fInvalidNumber___init__))) (iInvalidNumber___init__ : PySem.W.isFn K (.ref fInvalidNumber___init__) = true) (lInvalidNumber___init__ : K.lookup fInvalidNumber___init__ = some ⟨ocInvalidNumber___init__, odInvalidNumber___init__, .func (PySem.W.fnOf "__init__" "InvalidNumber.__init__" (defArgs s_InvalidNumber___init__) (defBody s_InvalidNumber___init__) (defScope s_InvalidNumber___init__) .none kVInvalidNumber___init__ dcInvalidNumber___init__ pmInvalidNumber___init__ anInvalidNumber___init__ cdInvalidNumber___init__ ctInvalidNumber___init__), slInvalidNumber___init__⟩) (cInvalidNumber___init__ : PySem.W.codeIn K cdInvalidNumber___init__ "InvalidNumber.__init__" = true) (kInvalidNumber___init__ : PySem.W.keepIn K (.ref fInvalidNumber___init__) = true)
    (aNoRoom___init__ : PySem.W.findIn K (.ref CNoRoom) "__init__" = some (some (.ref fNoRoom___init__))) (iNoRoom___init__ : PySem.W.isFn K (.ref fNoRoom___init__) = true) (lNoRoom___init__ : K.lookup fNoRoom___init__ = some ⟨ocNoRoom___init__, odNoRoom___init__, .func (PySem.W.fnOf "__init__" "NoRoom.__init__" (defArgs s_NoRoom___init__) (defBody s_NoRoom___init__) (defScope s_NoRoom___init__) .none kVNoRoom___init__ dcNoRoom___init__ pmNoRoom___init__ anNoRoom___init__ cdNoRoom___init__ ctNoRoom___init__), slNoRoom___init__⟩) (cNoRoom___init__ : PySem.W.codeIn K cdNoRoom___init__ "NoRoom.__init__" = true) (kNoRoom___init__ : PySem.W.keepIn K (.ref fNoRoom___init__) = true)
    (aNotHeld___init__ : PySem.W.findIn K (.ref CNotHeld) "__init__" = some (some (.ref fNotHeld___init__))) (iNotHeld___init__ : PySem.W.isFn K (.ref fNotHeld___init__) = true) (lNotHeld___init__ : K.lookup fNotHeld___init__ = some ⟨ocNotHeld___init__, odNotHeld___init__, .func (PySem.W.fnOf "__init__" "NotHeld.__init__" (defArgs s_NotHeld___init__) (defBody s_NotHeld___init__) (defScope s_NotHeld___init__) .none kVNotHeld___init__ dcNotHeld___init__ pmNotHeld___init__ anNotHeld___init__ cdNotHeld___init__ ctNotHeld___init__), slNotHeld___init__⟩) (cNotHeld___init__ : PySem.W.codeIn K cdNotHeld___init__ "NotHeld.__init__" = true) (kNotHeld___init__ : PySem.W.keepIn K (.ref fNotHeld___init__) = true)
    (aNotAlone___init__ : PySem.W.findIn K (.ref CNotAlone) "__init__" = some (some (.ref fNotAlone___init__))) (iNotAlone___init__ : PySem.W.isFn K (.ref fNotAlone___init__) = true) (lNotAlone___init__ : K.lookup fNotAlone___init__ = some ⟨ocNotAlone___init__, odNotAlone___init__, .func (PySem.W.fnOf "__init__" "NotAlone.__init__" (defArgs s_NotAlone___init__) (defBody s_NotAlone___init__) (defScope s_NotAlone___init__) .none kVNotAlone___init__ dcNotAlone___init__ pmNotAlone___init__ anNotAlone___init__ cdNotAlone___init__ ctNotAlone___init__), slNotAlone___init__⟩) (cNotAlone___init__ : PySem.W.codeIn K cdNotAlone___init__ "NotAlone.__init__" = true) (kNotAlone___init__ : PySem.W.keepIn K (.ref fNotAlone___init__) = true)
    (ais_between : PySem.W.nsIn K mainGlobals "is_between" = some (some (.ref fis_between))) (lis_between : K.lookup fis_between = some ⟨ocis_between, odis_between, .func (PySem.W.fnOf "is_between" "is_between" (defArgs s_is_between) (defBody s_is_between) (defScope s_is_between) .none kVis_between dcis_between pmis_between anis_between cdis_between ctis_between), slis_between⟩) (cis_between : PySem.W.codeIn K cdis_between "is_between" = true) (kis_between : PySem.W.keepIn K (.ref fis_between) = true)
    (aStore___init__ : PySem.W.findIn K (.ref CStore) "__init__" = some (some (.ref fStore___init__))) (iStore___init__ : PySem.W.isFn K (.ref fStore___init__) = true) (lStore___init__ : K.lookup fStore___init__ = some ⟨ocStore___init__, odStore___init__, .func (PySem.W.fnOf "__init__" "Store.__init__" (defArgs s_Store___init__) (defBody s_Store___init__) (defScope s_Store___init__) .none kVStore___init__ dcStore___init__ pmStore___init__ anStore___init__ cdStore___init__ ctStore___init__), slStore___init__⟩) (cStore___init__ : PySem.W.codeIn K cdStore___init__ "Store.__init__" = true) (kStore___init__ : PySem.W.keepIn K (.ref fStore___init__) = true)
    (aStore_free : PySem.W.findIn K (.ref CStore) "free" = some (some (.ref PStore_free))) (iStore_free : PySem.W.specialIn K (.ref PStore_free) "__get__" = some (some (.builtin "property.__get__"))) (tStore_free : PySem.W.takesIn K (.ref PStore_free) = some true) (rStore_free : ∃ rest, PySem.W.recIn K PStore_free "property" = some (.ref fStore_free :: rest)) (lStore_free : K.lookup fStore_free = some ⟨ocStore_free, odStore_free, .func (PySem.W.fnOf "free" "Store.free" (defArgs s_Store_free) (defBody s_Store_free) (defScope s_Store_free) .none kVStore_free dcStore_free pmStore_free anStore_free cdStore_free ctStore_free), slStore_free⟩) (cStore_free : PySem.W.codeIn K cdStore_free "Store.free" = true) (kStore_free : PySem.W.keepIn K (.ref fStore_free) = true)
    (aStore_check_held : PySem.W.findIn K (.ref CStore) "check_held" = some (some (.ref fStore_check_held))) (iStore_check_held : PySem.W.isFn K (.ref fStore_check_held) = true) (lStore_check_held : K.lookup fStore_check_held = some ⟨ocStore_check_held, odStore_check_held, .func (PySem.W.fnOf "check_held" "Store.check_held" (defArgs s_Store_check_held) (defBody s_Store_check_held) (defScope s_Store_check_held) .none kVStore_check_held dcStore_check_held pmStore_check_held anStore_check_held cdStore_check_held ctStore_check_held), slStore_check_held⟩) (cStore_check_held : PySem.W.codeIn K cdStore_check_held "Store.check_held" = true) (kStore_check_held : PySem.W.keepIn K (.ref fStore_check_held) = true)
    (aStore_check_alone : PySem.W.findIn K (.ref CStore) "check_alone" = some (some (.ref fStore_check_alone))) (iStore_check_alone : PySem.W.isFn K (.ref fStore_check_alone) = true) (lStore_check_alone : K.lookup fStore_check_alone = some ⟨ocStore_check_alone, odStore_check_alone, .func (PySem.W.fnOf "check_alone" "Store.check_alone" (defArgs s_Store_check_alone) (defBody s_Store_check_alone) (defScope s_Store_check_alone) .none kVStore_check_alone dcStore_check_alone pmStore_check_alone anStore_check_alone cdStore_check_alone ctStore_check_alone), slStore_check_alone⟩) (cStore_check_alone : PySem.W.codeIn K cdStore_check_alone "Store.check_alone" = true) (kStore_check_alone : PySem.W.keepIn K (.ref fStore_check_alone) = true)
    (aStore_take : PySem.W.findIn K (.ref CStore) "take" = some (some (.ref fStore_take))) (iStore_take : PySem.W.isFn K (.ref fStore_take) = true) (lStore_take : K.lookup fStore_take = some ⟨ocStore_take, odStore_take, .func (PySem.W.fnOf "take" "Store.take" (defArgs s_Store_take) (defBody s_Store_take) (defScope s_Store_take) .none kVStore_take dcStore_take pmStore_take anStore_take cdStore_take ctStore_take), slStore_take⟩) (cStore_take : PySem.W.codeIn K cdStore_take "Store.take" = true) (kStore_take : PySem.W.keepIn K (.ref fStore_take) = true)
    (aStore_hold : PySem.W.findIn K (.ref CStore) "hold" = some (some (.ref fStore_hold))) (iStore_hold : PySem.W.isFn K (.ref fStore_hold) = true) (lStore_hold : K.lookup fStore_hold = some ⟨ocStore_hold, odStore_hold, .func (PySem.W.fnOf "hold" "Store.hold" (defArgs s_Store_hold) (defBody s_Store_hold) (defScope s_Store_hold) .none kVStore_hold dcStore_hold pmStore_hold anStore_hold cdStore_hold ctStore_hold), slStore_hold⟩) (cStore_hold : PySem.W.codeIn K cdStore_hold "Store.hold" = true) (kStore_hold : PySem.W.keepIn K (.ref fStore_hold) = true)
    (aStore_release : PySem.W.findIn K (.ref CStore) "release" = some (some (.ref fStore_release))) (iStore_release : PySem.W.isFn K (.ref fStore_release) = true) (lStore_release : K.lookup fStore_release = some ⟨ocStore_release, odStore_release, .func (PySem.W.fnOf "release" "Store.release" (defArgs s_Store_release) (defBody s_Store_release) (defScope s_Store_release) .none kVStore_release dcStore_release pmStore_release anStore_release cdStore_release ctStore_release), slStore_release⟩) (cStore_release : PySem.W.codeIn K cdStore_release "Store.release" = true) (kStore_release : PySem.W.keepIn K (.ref fStore_release) = true)
    (aStore_put_row : PySem.W.findIn K (.ref CStore) "put_row" = some (some (.ref fStore_put_row))) (iStore_put_row : PySem.W.isFn K (.ref fStore_put_row) = true) (lStore_put_row : K.lookup fStore_put_row = some ⟨ocStore_put_row, odStore_put_row, .func (PySem.W.fnOf "put_row" "Store.put_row" (defArgs s_Store_put_row) (defBody s_Store_put_row) (defScope s_Store_put_row) .none kVStore_put_row dcStore_put_row pmStore_put_row anStore_put_row cdStore_put_row ctStore_put_row), slStore_put_row⟩) (cStore_put_row : PySem.W.codeIn K cdStore_put_row "Store.put_row" = true) (kStore_put_row : PySem.W.keepIn K (.ref fStore_put_row) = true)
    (aStore_holders : PySem.W.findIn K (.ref CStore) "holders" = some (some (.ref fStore_holders))) (iStore_holders : PySem.W.isFn K (.ref fStore_holders) = true) (lStore_holders : K.lookup fStore_holders = some ⟨ocStore_holders, odStore_holders, .func (PySem.W.fnOf "holders" "Store.holders" (defArgs s_Store_holders) (defBody s_Store_holders) (defScope s_Store_holders) .none kVStore_holders dcStore_holders pmStore_holders anStore_holders cdStore_holders ctStore_holders), slStore_holders⟩) (cStore_holders : PySem.W.codeIn K cdStore_holders "Store.holders" = true) (kStore_holders : PySem.W.keepIn K (.ref fStore_holders) = true)
    (aL_pool : PySem.W.nsIn K mainGlobals "_law_pool" = some (some (.ref fL_pool))) (lL_pool : K.lookup fL_pool = some ⟨ocL_pool, odL_pool, .func (PySem.W.fnOf "_law_pool" "_law_pool" (defArgs s_L_pool) (defBody s_L_pool) (defScope s_L_pool) .none kVL_pool dcL_pool pmL_pool anL_pool cdL_pool ctL_pool), slL_pool⟩) (cL_pool : PySem.W.codeIn K cdL_pool "_law_pool" = true) (kL_pool : PySem.W.keepIn K (.ref fL_pool) = true)
    (aL_draw : PySem.W.nsIn K mainGlobals "_law_draw" = some (some (.ref fL_draw))) (lL_draw : K.lookup fL_draw = some ⟨ocL_draw, odL_draw, .func (PySem.W.fnOf "_law_draw" "_law_draw" (defArgs s_L_draw) (defBody s_L_draw) (defScope s_L_draw) .none kVL_draw dcL_draw pmL_draw anL_draw cdL_draw ctL_draw), slL_draw⟩) (cL_draw : PySem.W.codeIn K cdL_draw "_law_draw" = true) (kL_draw : PySem.W.keepIn K (.ref fL_draw) = true)
    (aL_same : PySem.W.nsIn K mainGlobals "_law_same" = some (some (.ref fL_same))) (lL_same : K.lookup fL_same = some ⟨ocL_same, odL_same, .func (PySem.W.fnOf "_law_same" "_law_same" (defArgs s_L_same) (defBody s_L_same) (defScope s_L_same) .none kVL_same dcL_same pmL_same anL_same cdL_same ctL_same), slL_same⟩) (cL_same : PySem.W.codeIn K cdL_same "_law_same" = true) (kL_same : PySem.W.keepIn K (.ref fL_same) = true)
    (aL_new : PySem.W.nsIn K mainGlobals "_law_new" = some (some (.ref fL_new))) (lL_new : K.lookup fL_new = some ⟨ocL_new, odL_new, .func (PySem.W.fnOf "_law_new" "_law_new" (defArgs s_L_new) (defBody s_L_new) (defScope s_L_new) .none kVL_new dcL_new pmL_new anL_new cdL_new ctL_new), slL_new⟩) (cL_new : PySem.W.codeIn K cdL_new "_law_new" = true) (kL_new : PySem.W.keepIn K (.ref fL_new) = true)
    (aL_path : PySem.W.nsIn K mainGlobals "_law_path" = some (some (.ref fL_path))) (lL_path : K.lookup fL_path = some ⟨ocL_path, odL_path, .func (PySem.W.fnOf "_law_path" "_law_path" (defArgs s_L_path) (defBody s_L_path) (defScope s_L_path) .none kVL_path dcL_path pmL_path anL_path cdL_path ctL_path), slL_path⟩) (cL_path : PySem.W.codeIn K cdL_path "_law_path" = true) (kL_path : PySem.W.keepIn K (.ref fL_path) = true)
    (aL_letters : PySem.W.nsIn K mainGlobals "_law_letters" = some (some (.ref fL_letters))) (lL_letters : K.lookup fL_letters = some ⟨ocL_letters, odL_letters, .func (PySem.W.fnOf "_law_letters" "_law_letters" (defArgs s_L_letters) (defBody s_L_letters) (defScope s_L_letters) .none kVL_letters dcL_letters pmL_letters anL_letters cdL_letters ctL_letters), slL_letters⟩) (cL_letters : PySem.W.codeIn K cdL_letters "_law_letters" = true) (kL_letters : PySem.W.keepIn K (.ref fL_letters) = true)
    (aL_row : PySem.W.nsIn K mainGlobals "_law_row" = some (some (.ref fL_row))) (lL_row : K.lookup fL_row = some ⟨ocL_row, odL_row, .func (PySem.W.fnOf "_law_row" "_law_row" (defArgs s_L_row) (defBody s_L_row) (defScope s_L_row) .none kVL_row dcL_row pmL_row anL_row cdL_row ctL_row), slL_row⟩) (cL_row : PySem.W.codeIn K cdL_row "_law_row" = true) (kL_row : PySem.W.keepIn K (.ref fL_row) = true)
    (aL_uses : PySem.W.nsIn K mainGlobals "_law_uses" = some (some (.ref fL_uses))) (lL_uses : K.lookup fL_uses = some ⟨ocL_uses, odL_uses, .func (PySem.W.fnOf "_law_uses" "_law_uses" (defArgs s_L_uses) (defBody s_L_uses) (defScope s_L_uses) .none kVL_uses dcL_uses pmL_uses anL_uses cdL_uses ctL_uses), slL_uses⟩) (cL_uses : PySem.W.codeIn K cdL_uses "_law_uses" = true) (kL_uses : PySem.W.keepIn K (.ref fL_uses) = true)
    (aL_known : PySem.W.nsIn K mainGlobals "_law_known" = some (some (.ref fL_known))) (lL_known : K.lookup fL_known = some ⟨ocL_known, odL_known, .func (PySem.W.fnOf "_law_known" "_law_known" (defArgs s_L_known) (defBody s_L_known) (defScope s_L_known) .none kVL_known dcL_known pmL_known anL_known cdL_known ctL_known), slL_known⟩) (cL_known : PySem.W.codeIn K cdL_known "_law_known" = true) (kL_known : PySem.W.keepIn K (.ref fL_known) = true)
    (aL_release : PySem.W.nsIn K mainGlobals "_law_release" = some (some (.ref fL_release))) (lL_release : K.lookup fL_release = some ⟨ocL_release, odL_release, .func (PySem.W.fnOf "_law_release" "_law_release" (defArgs s_L_release) (defBody s_L_release) (defScope s_L_release) .none kVL_release dcL_release pmL_release anL_release cdL_release ctL_release), slL_release⟩) (cL_release : PySem.W.codeIn K cdL_release "_law_release" = true) (kL_release : PySem.W.keepIn K (.ref fL_release) = true)
    (aL_dropped : PySem.W.nsIn K mainGlobals "_law_dropped" = some (some (.ref fL_dropped))) (lL_dropped : K.lookup fL_dropped = some ⟨ocL_dropped, odL_dropped, .func (PySem.W.fnOf "_law_dropped" "_law_dropped" (defArgs s_L_dropped) (defBody s_L_dropped) (defScope s_L_dropped) .none kVL_dropped dcL_dropped pmL_dropped anL_dropped cdL_dropped ctL_dropped), slL_dropped⟩) (cL_dropped : PySem.W.codeIn K cdL_dropped "_law_dropped" = true) (kL_dropped : PySem.W.keepIn K (.ref fL_dropped) = true)
    (aL_as : PySem.W.nsIn K mainGlobals "_law_as" = some (some (.ref fL_as))) (lL_as : K.lookup fL_as = some ⟨ocL_as, odL_as, .func (PySem.W.fnOf "_law_as" "_law_as" (defArgs s_L_as) (defBody s_L_as) (defScope s_L_as) .none kVL_as dcL_as pmL_as anL_as cdL_as ctL_as), slL_as⟩) (cL_as : PySem.W.codeIn K cdL_as "_law_as" = true) (kL_as : PySem.W.keepIn K (.ref fL_as) = true)
    (aL_filled : PySem.W.nsIn K mainGlobals "_law_filled" = some (some (.ref fL_filled))) (lL_filled : K.lookup fL_filled = some ⟨ocL_filled, odL_filled, .func (PySem.W.fnOf "_law_filled" "_law_filled" (defArgs s_L_filled) (defBody s_L_filled) (defScope s_L_filled) .none kVL_filled dcL_filled pmL_filled anL_filled cdL_filled ctL_filled), slL_filled⟩) (cL_filled : PySem.W.codeIn K cdL_filled "_law_filled" = true) (kL_filled : PySem.W.keepIn K (.ref fL_filled) = true)
    (aL_shown : PySem.W.nsIn K mainGlobals "_law_shown" = some (some (.ref fL_shown))) (lL_shown : K.lookup fL_shown = some ⟨ocL_shown, odL_shown, .func (PySem.W.fnOf "_law_shown" "_law_shown" (defArgs s_L_shown) (defBody s_L_shown) (defScope s_L_shown) .none kVL_shown dcL_shown pmL_shown anL_shown cdL_shown ctL_shown), slL_shown⟩) (cL_shown : PySem.W.codeIn K cdL_shown "_law_shown" = true) (kL_shown : PySem.W.keepIn K (.ref fL_shown) = true)
    (aL_put : PySem.W.nsIn K mainGlobals "_law_put" = some (some (.ref fL_put))) (lL_put : K.lookup fL_put = some ⟨ocL_put, odL_put, .func (PySem.W.fnOf "_law_put" "_law_put" (defArgs s_L_put) (defBody s_L_put) (defScope s_L_put) .none kVL_put dcL_put pmL_put anL_put cdL_put ctL_put), slL_put⟩) (cL_put : PySem.W.codeIn K cdL_put "_law_put" = true) (kL_put : PySem.W.keepIn K (.ref fL_put) = true)
    (alaw : PySem.W.nsIn K mainGlobals "law" = some (some (.ref flaw))) (llaw : K.lookup flaw = some ⟨oclaw, odlaw, .func (PySem.W.fnOf "law" "law" (defArgs s_law) (defBody s_law) (defScope s_law) .none kVlaw dclaw pmlaw anlaw cdlaw ctlaw), sllaw⟩) (claw : PySem.W.codeIn K cdlaw "law" = true) (klaw : PySem.W.keepIn K (.ref flaw) = true)
    (xlInvalidNumber : K.lookup CInvalidNumber = some (PySem.excClassObj nmInvalidNumber qnInvalidNumber CInvalidNumber NInvalidNumber bsInvalidNumber [.ref CServeError, .type "ValueError", .type "Exception", .type "BaseException", .type "object"] true snInvalidNumber subInvalidNumber abInvalidNumber colInvalidNumber ddInvalidNumber m0InvalidNumber m1InvalidNumber m2InvalidNumber m3InvalidNumber m5InvalidNumber "ValueError.__new__")) (xaInvalidNumber : PySem.W.findIn K (.ref CInvalidNumber) "__setattr__" = some (some (.builtin "object.__setattr__"))) (xkInvalidNumber : PySem.W.keepIn K (.ref CInvalidNumber) = true) (xtInvalidNumber : PySem.W.typeIn K (.ref fInvalidNumber___init__) = some (.type "function")) (xnInvalidNumber : PySem.W.findIn K (.ref CInvalidNumber) "number" = some none) (xgInvalidNumber : PySem.W.findIn K (.ref CInvalidNumber) "__getattribute__" = some (some (.builtin "BaseException.__getattribute__"))) (xhInvalidNumber : PySem.W.findIn K (.ref CInvalidNumber) "__getattr__" = some none) (xcInvalidNumber : PySem.W.findIn K (.ref CInvalidNumber) "__class__" = some (some (.builtin "object.__class__"))) (xsInvalidNumber : PySem.W.specialIn K (.builtin "object.__class__") "__get__" = some (some (.builtin "getset_descriptor.__get__"))) (xuInvalidNumber : PySem.W.takesIn K (.builtin "object.__class__") = some true) (xmInvalidNumber : PySem.W.mroIn K CInvalidNumber (.type "object") = some true) (xvInvalidNumber : PySem.W.subIn K (.ref CInvalidNumber) (.type "ValueError") = some true)
    (suInvalidNumber_InvalidNumber : PySem.W.subIn K (.ref CInvalidNumber) (.ref CInvalidNumber) = some true)
    (suInvalidNumber_NoRoom : PySem.W.subIn K (.ref CInvalidNumber) (.ref CNoRoom) = some false)
    (suInvalidNumber_NotAlone : PySem.W.subIn K (.ref CInvalidNumber) (.ref CNotAlone) = some false)
    (suInvalidNumber_NotHeld : PySem.W.subIn K (.ref CInvalidNumber) (.ref CNotHeld) = some false)
    (xlNoRoom : K.lookup CNoRoom = some (PySem.excClassObj nmNoRoom qnNoRoom CNoRoom NNoRoom bsNoRoom [.ref CServeError, .type "ValueError", .type "Exception", .type "BaseException", .type "object"] true snNoRoom subNoRoom abNoRoom colNoRoom ddNoRoom m0NoRoom m1NoRoom m2NoRoom m3NoRoom m5NoRoom "ValueError.__new__")) (xaNoRoom : PySem.W.findIn K (.ref CNoRoom) "__setattr__" = some (some (.builtin "object.__setattr__"))) (xkNoRoom : PySem.W.keepIn K (.ref CNoRoom) = true) (xtNoRoom : PySem.W.typeIn K (.ref fNoRoom___init__) = some (.type "function")) (xnNoRoom : PySem.W.findIn K (.ref CNoRoom) "many" = some none) (xgNoRoom : PySem.W.findIn K (.ref CNoRoom) "__getattribute__" = some (some (.builtin "BaseException.__getattribute__"))) (xhNoRoom : PySem.W.findIn K (.ref CNoRoom) "__getattr__" = some none) (xcNoRoom : PySem.W.findIn K (.ref CNoRoom) "__class__" = some (some (.builtin "object.__class__"))) (xsNoRoom : PySem.W.specialIn K (.builtin "object.__class__") "__get__" = some (some (.builtin "getset_descriptor.__get__"))) (xuNoRoom : PySem.W.takesIn K (.builtin "object.__class__") = some true) (xmNoRoom : PySem.W.mroIn K CNoRoom (.type "object") = some true) (xvNoRoom : PySem.W.subIn K (.ref CNoRoom) (.type "ValueError") = some true)
    (suNoRoom_InvalidNumber : PySem.W.subIn K (.ref CNoRoom) (.ref CInvalidNumber) = some false)
    (suNoRoom_NoRoom : PySem.W.subIn K (.ref CNoRoom) (.ref CNoRoom) = some true)
    (suNoRoom_NotAlone : PySem.W.subIn K (.ref CNoRoom) (.ref CNotAlone) = some false)
    (suNoRoom_NotHeld : PySem.W.subIn K (.ref CNoRoom) (.ref CNotHeld) = some false)
    (xlNotAlone : K.lookup CNotAlone = some (PySem.excClassObj nmNotAlone qnNotAlone CNotAlone NNotAlone bsNotAlone [.ref CServeError, .type "ValueError", .type "Exception", .type "BaseException", .type "object"] true snNotAlone subNotAlone abNotAlone colNotAlone ddNotAlone m0NotAlone m1NotAlone m2NotAlone m3NotAlone m5NotAlone "ValueError.__new__")) (xaNotAlone : PySem.W.findIn K (.ref CNotAlone) "__setattr__" = some (some (.builtin "object.__setattr__"))) (xkNotAlone : PySem.W.keepIn K (.ref CNotAlone) = true) (xtNotAlone : PySem.W.typeIn K (.ref fNotAlone___init__) = some (.type "function")) (xnNotAlone : PySem.W.findIn K (.ref CNotAlone) "block" = some none) (xgNotAlone : PySem.W.findIn K (.ref CNotAlone) "__getattribute__" = some (some (.builtin "BaseException.__getattribute__"))) (xhNotAlone : PySem.W.findIn K (.ref CNotAlone) "__getattr__" = some none) (xcNotAlone : PySem.W.findIn K (.ref CNotAlone) "__class__" = some (some (.builtin "object.__class__"))) (xsNotAlone : PySem.W.specialIn K (.builtin "object.__class__") "__get__" = some (some (.builtin "getset_descriptor.__get__"))) (xuNotAlone : PySem.W.takesIn K (.builtin "object.__class__") = some true) (xmNotAlone : PySem.W.mroIn K CNotAlone (.type "object") = some true) (xvNotAlone : PySem.W.subIn K (.ref CNotAlone) (.type "ValueError") = some true)
    (suNotAlone_InvalidNumber : PySem.W.subIn K (.ref CNotAlone) (.ref CInvalidNumber) = some false)
    (suNotAlone_NoRoom : PySem.W.subIn K (.ref CNotAlone) (.ref CNoRoom) = some false)
    (suNotAlone_NotAlone : PySem.W.subIn K (.ref CNotAlone) (.ref CNotAlone) = some true)
    (suNotAlone_NotHeld : PySem.W.subIn K (.ref CNotAlone) (.ref CNotHeld) = some false)
    (xlNotHeld : K.lookup CNotHeld = some (PySem.excClassObj nmNotHeld qnNotHeld CNotHeld NNotHeld bsNotHeld [.ref CServeError, .type "ValueError", .type "Exception", .type "BaseException", .type "object"] true snNotHeld subNotHeld abNotHeld colNotHeld ddNotHeld m0NotHeld m1NotHeld m2NotHeld m3NotHeld m5NotHeld "ValueError.__new__")) (xaNotHeld : PySem.W.findIn K (.ref CNotHeld) "__setattr__" = some (some (.builtin "object.__setattr__"))) (xkNotHeld : PySem.W.keepIn K (.ref CNotHeld) = true) (xtNotHeld : PySem.W.typeIn K (.ref fNotHeld___init__) = some (.type "function")) (xnNotHeld : PySem.W.findIn K (.ref CNotHeld) "block" = some none) (xgNotHeld : PySem.W.findIn K (.ref CNotHeld) "__getattribute__" = some (some (.builtin "BaseException.__getattribute__"))) (xhNotHeld : PySem.W.findIn K (.ref CNotHeld) "__getattr__" = some none) (xcNotHeld : PySem.W.findIn K (.ref CNotHeld) "__class__" = some (some (.builtin "object.__class__"))) (xsNotHeld : PySem.W.specialIn K (.builtin "object.__class__") "__get__" = some (some (.builtin "getset_descriptor.__get__"))) (xuNotHeld : PySem.W.takesIn K (.builtin "object.__class__") = some true) (xmNotHeld : PySem.W.mroIn K CNotHeld (.type "object") = some true) (xvNotHeld : PySem.W.subIn K (.ref CNotHeld) (.type "ValueError") = some true)
    (suNotHeld_InvalidNumber : PySem.W.subIn K (.ref CNotHeld) (.ref CInvalidNumber) = some false)
    (suNotHeld_NoRoom : PySem.W.subIn K (.ref CNotHeld) (.ref CNoRoom) = some false)
    (suNotHeld_NotAlone : PySem.W.subIn K (.ref CNotHeld) (.ref CNotAlone) = some false)
    (suNotHeld_NotHeld : PySem.W.subIn K (.ref CNotHeld) (.ref CNotHeld) = some true)
    (zabs : PySem.W.nsIn K mainGlobals "abs" = some none)
    (zbool : PySem.W.nsIn K mainGlobals "bool" = some none)
    (zint : PySem.W.nsIn K mainGlobals "int" = some none)
    (zisinstance : PySem.W.nsIn K mainGlobals "isinstance" = some none)
    (ziter : PySem.W.nsIn K mainGlobals "iter" = some none)
    (zlen : PySem.W.nsIn K mainGlobals "len" = some none)
    (zlist : PySem.W.nsIn K mainGlobals "list" = some none)
    (zmin : PySem.W.nsIn K mainGlobals "min" = some none)
    (zrange : PySem.W.nsIn K mainGlobals "range" = some none)
    (zsorted : PySem.W.nsIn K mainGlobals "sorted" = some none)
    (zstr : PySem.W.nsIn K mainGlobals "str" = some none)
    (zsum : PySem.W.nsIn K mainGlobals "sum" = some none)
    (ztuple : PySem.W.nsIn K mainGlobals "tuple" = some none)
    : ∃ fd : FuncData, (∀ (s : Shared) (v : Value), BindsTo s fd ⟨[v], []⟩ [("_law_script", v)]) ∧ ∀ base : Heap, K.In base → base.Ns mainGlobals mg → FnOk l.prog w K mg base CX0 14 fa fd ["_law_script"] (sp_law K) := by
  have e := hfa.symm.trans (PySem.W.mg_of X G alaw)
  cases e
  have Fu_wall := fun_mk (st := s_u_wall) lu_wall cu_wall ku_wall
  have bu_wall := Fu_wall.binds (ps := ["k"]) fun _ _ _ _ _ _ us hl => match us, hl with | [_], _ => rfl
  have FTree___init__ := fun_mk (st := s_Tree___init__) lTree___init__ cTree___init__ kTree___init__
  have bTree___init__ := FTree___init__.binds (ps := ["self", "store"]) fun _ _ _ _ _ _ us hl => match us, hl with | [_, _], _ => rfl
  have FTree_beginnings := fun_mk (st := s_Tree_beginnings) lTree_beginnings cTree_beginnings kTree_beginnings
  have bTree_beginnings := FTree_beginnings.binds (ps := ["self", "letters"]) fun _ _ _ _ _ _ us hl => match us, hl with | [_, _], _ => rfl
  have FTree_use := fun_mk (st := s_Tree_use) lTree_use cTree_use kTree_use
  have bTree_use := FTree_use.binds (ps := ["self", "paths"]) fun _ _ _ _ _ _ us hl => match us, hl with | [_, _], _ => rfl
  have FTree_known := fun_mk (st := s_Tree_known) lTree_known cTree_known kTree_known
  have bTree_known := FTree_known.binds (ps := ["self", "letters"]) fun _ _ _ _ _ _ us hl => match us, hl with | [_, _], _ => rfl
  have FTree_put := fun_mk (st := s_Tree_put) lTree_put cTree_put kTree_put
  have bTree_put := FTree_put.binds (ps := ["self", "path", "block"]) fun _ _ _ _ _ _ us hl => match us, hl with | [_, _, _], _ => rfl
  have FTree_ends_of := fun_mk (st := s_Tree_ends_of) lTree_ends_of cTree_ends_of kTree_ends_of
  have bTree_ends_of := FTree_ends_of.binds (ps := ["self", "paths"]) fun _ _ _ _ _ _ us hl => match us, hl with | [_, _], _ => rfl
  have FTree_oldest_of := fun_mk (st := s_Tree_oldest_of) lTree_oldest_of cTree_oldest_of kTree_oldest_of
  have bTree_oldest_of := FTree_oldest_of.binds (ps := ["self", "paths"]) fun _ _ _ _ _ _ us hl => match us, hl with | [_, _], _ => rfl
  have FTree_drop := fun_mk (st := s_Tree_drop) lTree_drop cTree_drop kTree_drop
  have bTree_drop := FTree_drop.binds (ps := ["self"]) fun _ _ _ _ _ _ us hl => match us, hl with | [_], _ => rfl
  have FTree___len__ := fun_mk (st := s_Tree___len__) lTree___len__ cTree___len__ kTree___len__
  have bTree___len__ := FTree___len__.binds (ps := ["self"]) fun _ _ _ _ _ _ us hl => match us, hl with | [_], _ => rfl
  have FTree___iter__ := fun_mk (st := s_Tree___iter__) lTree___iter__ cTree___iter__ kTree___iter__
  have bTree___iter__ := FTree___iter__.binds (ps := ["self"]) fun _ _ _ _ _ _ us hl => match us, hl with | [_], _ => rfl
  have FInvalidNumber___init__ := fun_mk (st := s_InvalidNumber___init__) lInvalidNumber___init__ cInvalidNumber___init__ kInvalidNumber___init__
  have bInvalidNumber___init__ := FInvalidNumber___init__.binds (ps := ["self", "number"]) fun _ _ _ _ _ _ us hl => match us, hl with | [_, _], _ => rfl
  have FNoRoom___init__ := fun_mk (st := s_NoRoom___init__) lNoRoom___init__ cNoRoom___init__ kNoRoom___init__
  have bNoRoom___init__ := FNoRoom___init__.binds (ps := ["self", "many"]) fun _ _ _ _ _ _ us hl => match us, hl with | [_, _], _ => rfl
  have FNotHeld___init__ := fun_mk (st := s_NotHeld___init__) lNotHeld___init__ cNotHeld___init__ kNotHeld___init__
  have bNotHeld___init__ := FNotHeld___init__.binds (ps := ["self", "block"]) fun _ _ _ _ _ _ us hl => match us, hl with | [_, _], _ => rfl
  have FNotAlone___init__ := fun_mk (st := s_NotAlone___init__) lNotAlone___init__ cNotAlone___init__ kNotAlone___init__
  have bNotAlone___init__ := FNotAlone___init__.binds (ps := ["self", "block"]) fun _ _ _ _ _ _ us hl => match us, hl with | [_, _], _ => rfl
  have Fis_between := fun_mk (st := s_is_between) lis_between cis_between kis_between
  have bis_between := Fis_between.binds (ps := ["value", "least", "most"]) fun _ _ _ _ _ _ us hl => match us, hl with | [_, _, _], _ => rfl
  have FStore___init__ := fun_mk (st := s_Store___init__) lStore___init__ cStore___init__ kStore___init__
  have bStore___init__ := FStore___init__.binds (ps := ["self", "many", "size"]) fun _ _ _ _ _ _ us hl => match us, hl with | [_, _, _], _ => rfl
  have FStore_free := fun_mk (st := s_Store_free) lStore_free cStore_free kStore_free
  have bStore_free := FStore_free.binds (ps := ["self"]) fun _ _ _ _ _ _ us hl => match us, hl with | [_], _ => rfl
  have FStore_check_held := fun_mk (st := s_Store_check_held) lStore_check_held cStore_check_held kStore_check_held
  have bStore_check_held := FStore_check_held.binds (ps := ["self", "block"]) fun _ _ _ _ _ _ us hl => match us, hl with | [_, _], _ => rfl
  have FStore_check_alone := fun_mk (st := s_Store_check_alone) lStore_check_alone cStore_check_alone kStore_check_alone
  have bStore_check_alone := FStore_check_alone.binds (ps := ["self", "block"]) fun _ _ _ _ _ _ us hl => match us, hl with | [_, _], _ => rfl
  have FStore_take := fun_mk (st := s_Store_take) lStore_take cStore_take kStore_take
  have bStore_take := FStore_take.binds (ps := ["self"]) fun _ _ _ _ _ _ us hl => match us, hl with | [_], _ => rfl
  have FStore_hold := fun_mk (st := s_Store_hold) lStore_hold cStore_hold kStore_hold
  have bStore_hold := FStore_hold.binds (ps := ["self", "block"]) fun _ _ _ _ _ _ us hl => match us, hl with | [_, _], _ => rfl
  have FStore_release := fun_mk (st := s_Store_release) lStore_release cStore_release kStore_release
  have bStore_release := FStore_release.binds (ps := ["self", "block"]) fun _ _ _ _ _ _ us hl => match us, hl with | [_, _], _ => rfl
  have FStore_put_row := fun_mk (st := s_Store_put_row) lStore_put_row cStore_put_row kStore_put_row
  have bStore_put_row := FStore_put_row.binds (ps := ["self", "block", "row"]) fun _ _ _ _ _ _ us hl => match us, hl with | [_, _, _], _ => rfl
  have FStore_holders := fun_mk (st := s_Store_holders) lStore_holders cStore_holders kStore_holders
  have bStore_holders := FStore_holders.binds (ps := ["self", "block"]) fun _ _ _ _ _ _ us hl => match us, hl with | [_, _], _ => rfl
  have FL_pool := fun_mk (st := s_L_pool) lL_pool cL_pool kL_pool
  have bL_pool := FL_pool.binds (ps := ["_law_script", "_law_many"]) fun _ _ _ _ _ _ us hl => match us, hl with | [_, _], _ => rfl
  have FL_draw := fun_mk (st := s_L_draw) lL_draw cL_draw kL_draw
  have bL_draw := FL_draw.binds (ps := ["_law_pool_here", "_law_many"]) fun _ _ _ _ _ _ us hl => match us, hl with | [_, _], _ => rfl
  have FL_same := fun_mk (st := s_L_same) lL_same cL_same kL_same
  have bL_same := FL_same.binds (ps := ["_law_told", "_law_due"]) fun _ _ _ _ _ _ us hl => match us, hl with | [_, _], _ => rfl
  have FL_new := fun_mk (st := s_L_new) lL_new cL_new kL_new
  have bL_new := FL_new.binds (ps := ["_law_pool_here", "_law_size"]) fun _ _ _ _ _ _ us hl => match us, hl with | [_, _], _ => rfl
  have FL_path := fun_mk (st := s_L_path) lL_path cL_path kL_path
  have bL_path := FL_path.binds (ps := ["_law_pool_here", "_law_state"]) fun _ _ _ _ _ _ us hl => match us, hl with | [_, _], _ => rfl
  have FL_letters := fun_mk (st := s_L_letters) lL_letters cL_letters kL_letters
  have bL_letters := FL_letters.binds (ps := ["_law_pool_here", "_law_state", "_law_many"]) fun _ _ _ _ _ _ us hl => match us, hl with | [_, _, _], _ => rfl
  have FL_row := fun_mk (st := s_L_row) lL_row cL_row kL_row
  have bL_row := FL_row.binds (ps := ["_law_state", "_law_letters_here", "_law_k"]) fun _ _ _ _ _ _ us hl => match us, hl with | [_, _, _], _ => rfl
  have FL_uses := fun_mk (st := s_L_uses) lL_uses cL_uses kL_uses
  have bL_uses := FL_uses.binds (ps := ["_law_state", "_law_path_here"]) fun _ _ _ _ _ _ us hl => match us, hl with | [_, _], _ => rfl
  have FL_known := fun_mk (st := s_L_known) lL_known cL_known kL_known
  have bL_known := FL_known.binds (ps := ["_law_state", "_law_letters_here"]) fun _ _ _ _ _ _ us hl => match us, hl with | [_, _], _ => rfl
  have FL_release := fun_mk (st := s_L_release) lL_release cL_release kL_release
  have bL_release := FL_release.binds (ps := ["_law_state", "_law_block"]) fun _ _ _ _ _ _ us hl => match us, hl with | [_, _], _ => rfl
  have FL_dropped := fun_mk (st := s_L_dropped) lL_dropped cL_dropped kL_dropped
  have bL_dropped := FL_dropped.binds (ps := ["_law_state"]) fun _ _ _ _ _ _ us hl => match us, hl with | [_], _ => rfl
  have FL_as := fun_mk (st := s_L_as) lL_as cL_as kL_as
  have bL_as := FL_as.binds (ps := ["_law_pool_here", "_law_row_here"]) fun _ _ _ _ _ _ us hl => match us, hl with | [_, _], _ => rfl
  have FL_filled := fun_mk (st := s_L_filled) lL_filled cL_filled kL_filled
  have bL_filled := FL_filled.binds (ps := ["_law_store", "_law_state", "_law_letters_here"]) fun _ _ _ _ _ _ us hl => match us, hl with | [_, _, _], _ => rfl
  have FL_shown := fun_mk (st := s_L_shown) lL_shown cL_shown kL_shown
  have bL_shown := FL_shown.binds (ps := ["_law_store", "_law_tree", "_law_state"]) fun _ _ _ _ _ _ us hl => match us, hl with | [_, _, _], _ => rfl
  have FL_put := fun_mk (st := s_L_put) lL_put cL_put kL_put
  have bL_put := FL_put.binds (ps := ["_law_pool_here", "_law_store", "_law_tree", "_law_state", "_law_path_here", "_law_keeps"]) fun _ _ _ _ _ _ us hl => match us, hl with | [_, _, _, _, _, _], _ => rfl
  have Flaw := fun_mk (st := s_law) llaw claw klaw
  have blaw := Flaw.binds (ps := ["_law_script"]) fun _ _ _ _ _ _ us hl => match us, hl with | [_], _ => rfl
  let T : Txt K mg := { c_Tree := _, C_Tree := ⟨pgTree, hdTree, poTree, saTree⟩, gc_Tree := PySem.W.mg_of X G aCTree, n_Tree_store := nTree_store, n_Tree_paths := nTree_paths, n_Tree_under := nTree_under, n_Tree_used := nTree_used, n_Tree_clock := nTree_clock, c_Store := _, C_Store := ⟨pgStore, hdStore, poStore, saStore⟩, gc_Store := PySem.W.mg_of X G aCStore, n_Store_many := nStore_many, n_Store_size := nStore_size, n_Store_counts := nStore_counts, n_Store_kept := nStore_kept, c_InvalidNumber := _, gc_InvalidNumber := PySem.W.mg_of X G aCInvalidNumber, er_InvalidNumber := ⟨eiInvalidNumber, etInvalidNumber, ebInvalidNumber, ehInvalidNumber⟩, c_NoRoom := _, gc_NoRoom := PySem.W.mg_of X G aCNoRoom, er_NoRoom := ⟨eiNoRoom, etNoRoom, ebNoRoom, ehNoRoom⟩, c_NotAlone := _, gc_NotAlone := PySem.W.mg_of X G aCNotAlone, er_NotAlone := ⟨eiNotAlone, etNotAlone, ebNotAlone, ehNotAlone⟩, c_NotHeld := _, gc_NotHeld := PySem.W.mg_of X G aCNotHeld, er_NotHeld := ⟨eiNotHeld, etNotHeld, ebNotHeld, ehNotHeld⟩, tk_MOST_BLOCKS := _, gk_MOST_BLOCKS := PySem.W.mg_of X G aKMOST_BLOCKS, tk_MOST_ROWS := _, gk_MOST_ROWS := PySem.W.mg_of X G aKMOST_ROWS, a_u_wall := _, d_u_wall := _, F_u_wall := Fu_wall, b_u_wall := bu_wall, g_u_wall := PySem.W.mg_of X G au_wall, a_Tree___init__ := _, d_Tree___init__ := _, F_Tree___init__ := FTree___init__, b_Tree___init__ := bTree___init__, M_Tree := ⟨mkTree, aTree___init__, iTree___init__, kcTree⟩, a_Tree_beginnings := _, d_Tree_beginnings := _, F_Tree_beginnings := FTree_beginnings, b_Tree_beginnings := bTree_beginnings, m_Tree_beginnings := ⟨aTree_beginnings, iTree_beginnings, kTree_beginnings⟩, a_Tree_use := _, d_Tree_use := _, F_Tree_use := FTree_use, b_Tree_use := bTree_use, m_Tree_use := ⟨aTree_use, iTree_use, kTree_use⟩, a_Tree_known := _, d_Tree_known := _, F_Tree_known := FTree_known, b_Tree_known := bTree_known, m_Tree_known := ⟨aTree_known, iTree_known, kTree_known⟩, a_Tree_put := _, d_Tree_put := _, F_Tree_put := FTree_put, b_Tree_put := bTree_put, m_Tree_put := ⟨aTree_put, iTree_put, kTree_put⟩, a_Tree_ends_of := _, d_Tree_ends_of := _, F_Tree_ends_of := FTree_ends_of, b_Tree_ends_of := bTree_ends_of, m_Tree_ends_of := ⟨aTree_ends_of, iTree_ends_of, kTree_ends_of⟩, a_Tree_oldest_of := _, d_Tree_oldest_of := _, F_Tree_oldest_of := FTree_oldest_of, b_Tree_oldest_of := bTree_oldest_of, m_Tree_oldest_of := ⟨aTree_oldest_of, iTree_oldest_of, kTree_oldest_of⟩, a_Tree_drop := _, d_Tree_drop := _, F_Tree_drop := FTree_drop, b_Tree_drop := bTree_drop, m_Tree_drop := ⟨aTree_drop, iTree_drop, kTree_drop⟩, a_Tree___len__ := _, d_Tree___len__ := _, F_Tree___len__ := FTree___len__, b_Tree___len__ := bTree___len__, m_Tree___len__ := ⟨aTree___len__, iTree___len__, kTree___len__⟩, a_Tree___iter__ := _, d_Tree___iter__ := _, F_Tree___iter__ := FTree___iter__, b_Tree___iter__ := bTree___iter__, m_Tree___iter__ := ⟨aTree___iter__, iTree___iter__, kTree___iter__⟩, a_InvalidNumber___init__ := _, d_InvalidNumber___init__ := _, F_InvalidNumber___init__ := FInvalidNumber___init__, b_InvalidNumber___init__ := bInvalidNumber___init__, a_NoRoom___init__ := _, d_NoRoom___init__ := _, F_NoRoom___init__ := FNoRoom___init__, b_NoRoom___init__ := bNoRoom___init__, a_NotHeld___init__ := _, d_NotHeld___init__ := _, F_NotHeld___init__ := FNotHeld___init__, b_NotHeld___init__ := bNotHeld___init__, a_NotAlone___init__ := _, d_NotAlone___init__ := _, F_NotAlone___init__ := FNotAlone___init__, b_NotAlone___init__ := bNotAlone___init__, a_is_between := _, d_is_between := _, F_is_between := Fis_between, b_is_between := bis_between, g_is_between := PySem.W.mg_of X G ais_between, a_Store___init__ := _, d_Store___init__ := _, F_Store___init__ := FStore___init__, b_Store___init__ := bStore___init__, M_Store := ⟨mkStore, aStore___init__, iStore___init__, kcStore⟩, a_Store_free := _, d_Store_free := _, F_Store_free := FStore_free, b_Store_free := bStore_free, p_Store_free := _, P_Store_free := ⟨aStore_free, iStore_free, tStore_free, rStore_free⟩, a_Store_check_held := _, d_Store_check_held := _, F_Store_check_held := FStore_check_held, b_Store_check_held := bStore_check_held, m_Store_check_held := ⟨aStore_check_held, iStore_check_held, kStore_check_held⟩, a_Store_check_alone := _, d_Store_check_alone := _, F_Store_check_alone := FStore_check_alone, b_Store_check_alone := bStore_check_alone, m_Store_check_alone := ⟨aStore_check_alone, iStore_check_alone, kStore_check_alone⟩, a_Store_take := _, d_Store_take := _, F_Store_take := FStore_take, b_Store_take := bStore_take, m_Store_take := ⟨aStore_take, iStore_take, kStore_take⟩, a_Store_hold := _, d_Store_hold := _, F_Store_hold := FStore_hold, b_Store_hold := bStore_hold, m_Store_hold := ⟨aStore_hold, iStore_hold, kStore_hold⟩, a_Store_release := _, d_Store_release := _, F_Store_release := FStore_release, b_Store_release := bStore_release, m_Store_release := ⟨aStore_release, iStore_release, kStore_release⟩, a_Store_put_row := _, d_Store_put_row := _, F_Store_put_row := FStore_put_row, b_Store_put_row := bStore_put_row, m_Store_put_row := ⟨aStore_put_row, iStore_put_row, kStore_put_row⟩, a_Store_holders := _, d_Store_holders := _, F_Store_holders := FStore_holders, b_Store_holders := bStore_holders, m_Store_holders := ⟨aStore_holders, iStore_holders, kStore_holders⟩, a_L_pool := _, d_L_pool := _, F_L_pool := FL_pool, b_L_pool := bL_pool, g_L_pool := PySem.W.mg_of X G aL_pool, a_L_draw := _, d_L_draw := _, F_L_draw := FL_draw, b_L_draw := bL_draw, g_L_draw := PySem.W.mg_of X G aL_draw, a_L_same := _, d_L_same := _, F_L_same := FL_same, b_L_same := bL_same, g_L_same := PySem.W.mg_of X G aL_same, a_L_new := _, d_L_new := _, F_L_new := FL_new, b_L_new := bL_new, g_L_new := PySem.W.mg_of X G aL_new, a_L_path := _, d_L_path := _, F_L_path := FL_path, b_L_path := bL_path, g_L_path := PySem.W.mg_of X G aL_path, a_L_letters := _, d_L_letters := _, F_L_letters := FL_letters, b_L_letters := bL_letters, g_L_letters := PySem.W.mg_of X G aL_letters, a_L_row := _, d_L_row := _, F_L_row := FL_row, b_L_row := bL_row, g_L_row := PySem.W.mg_of X G aL_row, a_L_uses := _, d_L_uses := _, F_L_uses := FL_uses, b_L_uses := bL_uses, g_L_uses := PySem.W.mg_of X G aL_uses, a_L_known := _, d_L_known := _, F_L_known := FL_known, b_L_known := bL_known, g_L_known := PySem.W.mg_of X G aL_known, a_L_release := _, d_L_release := _, F_L_release := FL_release, b_L_release := bL_release, g_L_release := PySem.W.mg_of X G aL_release, a_L_dropped := _, d_L_dropped := _, F_L_dropped := FL_dropped, b_L_dropped := bL_dropped, g_L_dropped := PySem.W.mg_of X G aL_dropped, a_L_as := _, d_L_as := _, F_L_as := FL_as, b_L_as := bL_as, g_L_as := PySem.W.mg_of X G aL_as, a_L_filled := _, d_L_filled := _, F_L_filled := FL_filled, b_L_filled := bL_filled, g_L_filled := PySem.W.mg_of X G aL_filled, a_L_shown := _, d_L_shown := _, F_L_shown := FL_shown, b_L_shown := bL_shown, g_L_shown := PySem.W.mg_of X G aL_shown, a_L_put := _, d_L_put := _, F_L_put := FL_put, b_L_put := bL_put, g_L_put := PySem.W.mg_of X G aL_put, a_law := _, d_law := _, F_law := Flaw, b_law := blaw, g_law := PySem.W.mg_of X G alaw, ox_InvalidNumber := ⟨⟨_, _, _, _, _, _, _, _, _, _, _, _, _, _, _, xlInvalidNumber, rfl⟩, xaInvalidNumber, ebInvalidNumber, etInvalidNumber, xkInvalidNumber⟩, ic_InvalidNumber := aInvalidNumber___init__, ti_InvalidNumber := xtInvalidNumber, nf_InvalidNumber := xnInvalidNumber, xf_InvalidNumber := ⟨xgInvalidNumber, xhInvalidNumber, ebInvalidNumber, ehInvalidNumber⟩, ec_InvalidNumber := ⟨xgInvalidNumber, xhInvalidNumber, ebInvalidNumber, ehInvalidNumber, xcInvalidNumber, xsInvalidNumber, xuInvalidNumber, xmInvalidNumber⟩, sv_InvalidNumber := xvInvalidNumber, sub_InvalidNumber_InvalidNumber := suInvalidNumber_InvalidNumber, sub_InvalidNumber_NoRoom := suInvalidNumber_NoRoom, sub_InvalidNumber_NotAlone := suInvalidNumber_NotAlone, sub_InvalidNumber_NotHeld := suInvalidNumber_NotHeld, ox_NoRoom := ⟨⟨_, _, _, _, _, _, _, _, _, _, _, _, _, _, _, xlNoRoom, rfl⟩, xaNoRoom, ebNoRoom, etNoRoom, xkNoRoom⟩, ic_NoRoom := aNoRoom___init__, ti_NoRoom := xtNoRoom, nf_NoRoom := xnNoRoom, xf_NoRoom := ⟨xgNoRoom, xhNoRoom, ebNoRoom, ehNoRoom⟩, ec_NoRoom := ⟨xgNoRoom, xhNoRoom, ebNoRoom, ehNoRoom, xcNoRoom, xsNoRoom, xuNoRoom, xmNoRoom⟩, sv_NoRoom := xvNoRoom, sub_NoRoom_InvalidNumber := suNoRoom_InvalidNumber, sub_NoRoom_NoRoom := suNoRoom_NoRoom, sub_NoRoom_NotAlone := suNoRoom_NotAlone, sub_NoRoom_NotHeld := suNoRoom_NotHeld, ox_NotAlone := ⟨⟨_, _, _, _, _, _, _, _, _, _, _, _, _, _, _, xlNotAlone, rfl⟩, xaNotAlone, ebNotAlone, etNotAlone, xkNotAlone⟩, ic_NotAlone := aNotAlone___init__, ti_NotAlone := xtNotAlone, nf_NotAlone := xnNotAlone, xf_NotAlone := ⟨xgNotAlone, xhNotAlone, ebNotAlone, ehNotAlone⟩, ec_NotAlone := ⟨xgNotAlone, xhNotAlone, ebNotAlone, ehNotAlone, xcNotAlone, xsNotAlone, xuNotAlone, xmNotAlone⟩, sv_NotAlone := xvNotAlone, sub_NotAlone_InvalidNumber := suNotAlone_InvalidNumber, sub_NotAlone_NoRoom := suNotAlone_NoRoom, sub_NotAlone_NotAlone := suNotAlone_NotAlone, sub_NotAlone_NotHeld := suNotAlone_NotHeld, ox_NotHeld := ⟨⟨_, _, _, _, _, _, _, _, _, _, _, _, _, _, _, xlNotHeld, rfl⟩, xaNotHeld, ebNotHeld, etNotHeld, xkNotHeld⟩, ic_NotHeld := aNotHeld___init__, ti_NotHeld := xtNotHeld, nf_NotHeld := xnNotHeld, xf_NotHeld := ⟨xgNotHeld, xhNotHeld, ebNotHeld, ehNotHeld⟩, ec_NotHeld := ⟨xgNotHeld, xhNotHeld, ebNotHeld, ehNotHeld, xcNotHeld, xsNotHeld, xuNotHeld, xmNotHeld⟩, sv_NotHeld := xvNotHeld, sub_NotHeld_InvalidNumber := suNotHeld_InvalidNumber, sub_NotHeld_NoRoom := suNotHeld_NoRoom, sub_NotHeld_NotAlone := suNotHeld_NotAlone, sub_NotHeld_NotHeld := suNotHeld_NotHeld, z_abs := PySem.W.mg_none_of X G zabs, z_bool := PySem.W.mg_none_of X G zbool, z_int := PySem.W.mg_none_of X G zint, z_isinstance := PySem.W.mg_none_of X G zisinstance, z_iter := PySem.W.mg_none_of X G ziter, z_len := PySem.W.mg_none_of X G zlen, z_list := PySem.W.mg_none_of X G zlist, z_min := PySem.W.mg_none_of X G zmin, z_range := PySem.W.mg_none_of X G zrange, z_sorted := PySem.W.mg_none_of X G zsorted, z_str := PySem.W.mg_none_of X G zstr, z_sum := PySem.W.mg_none_of X G zsum, z_tuple := PySem.W.mg_none_of X G ztuple }
  exact ⟨_, fun s v => .of_eq rfl, fun base _ _ => ok_law (P := l.prog) (w := w) (base := base) T⟩
theorem walk {l : PySem.W.OpenLaw} {q : Program} {loose : List Str} {XP : (Str → Option Value) → Heap → Prop} {YP : World → Heap → Prop} {d : DefRec} {K : Params → PySem.W.Frag} (hn : l.most = some 63) (hdf : d.params.defaults = [])
    (hY : ∀ (w : World) (h : Heap), YP w h → (K w.params).In h)
    (F : ∀ (w : World) (mg : Str → Option Value) (fa : Addr) (h : Heap), (K w.params).In h → h.Ns mainGlobals mg → mg d.name = some (.ref fa) →
      ∃ fd : FuncData, (∀ (s : Shared) (u : Value), BindsTo s fd ⟨[u], []⟩ [("_law_script", u)]) ∧ ∀ base : Heap, (K w.params).In base → base.Ns mainGlobals mg → FnOk l.prog w (K w.params) mg base CX0 14 fa fd ["_law_script"] (sp_law (K w.params))) :
    PySem.W.WalkO q loose XP YP l.row.toRowW d [] (fun f vs => PySem.call f vs) :=
  L2.walk_of (n := 63) (k := 14) (x := "_law_script") (CX := fun _ => CX0) (sp := fun w => sp_law (K w.params)) hn (by decide) hdf ⟨rfl, by decide, by decide⟩ hY F (fun _ _ a ns hl _ hS => ⟨a, ns, rfl, hS, hl, fun _ => rfl⟩) fun _ _ _ _ _ z => z
end My

open PySem PySem.W PyProof.Rows
set_option maxRecDepth 100000 in
set_option maxHeartbeats 0 in
theorem PySem.Challenge.cw_servedalone_k22_used_longest_ago_holds : PySem.Challenge.rw_servedalone_k22_used_longest_ago.Holds := by
  w_on; o_law; k_head; (case hw => w_witness2)
  k_fill
  refine My.walk (l := PySem.Challenge.rw_servedalone_k22_used_longest_ago) rfl rfl (fun w h Y => PySem.W.kIn_of Y) ?F
  case F =>
    intro w mg fa h KX G hmg
    refine' My.all_mk KX G hmg ?aCTree ?pgTree ?hdTree ?poTree ?saTree ?mkTree ?kcTree ?nTree_store ?nTree_paths ?nTree_under ?nTree_used ?nTree_clock ?aCStore ?pgStore ?hdStore ?poStore ?saStore ?mkStore ?kcStore ?nStore_many ?nStore_size ?nStore_counts ?nStore_kept ?aCInvalidNumber ?eiInvalidNumber ?etInvalidNumber ?ebInvalidNumber ?ehInvalidNumber ?aCNoRoom ?eiNoRoom ?etNoRoom ?ebNoRoom ?ehNoRoom ?aCNotAlone ?eiNotAlone ?etNotAlone ?ebNotAlone ?ehNotAlone ?aCNotHeld ?eiNotHeld ?etNotHeld ?ebNotHeld ?ehNotHeld ?aKMOST_BLOCKS ?aKMOST_ROWS ?au_wall ?lu_wall ?cu_wall ?ku_wall ?aTree___init__ ?iTree___init__ ?lTree___init__ ?cTree___init__ ?kTree___init__ ?aTree_beginnings ?iTree_beginnings ?lTree_beginnings ?cTree_beginnings ?kTree_beginnings ?aTree_use ?iTree_use ?lTree_use ?cTree_use ?kTree_use ?aTree_known ?iTree_known ?lTree_known ?cTree_known ?kTree_known ?aTree_put ?iTree_put ?lTree_put ?cTree_put ?kTree_put ?aTree_ends_of ?iTree_ends_of ?lTree_ends_of ?cTree_ends_of ?kTree_ends_of ?aTree_oldest_of ?iTree_oldest_of ?lTree_oldest_of ?cTree_oldest_of ?kTree_oldest_of ?aTree_drop ?iTree_drop ?lTree_drop ?cTree_drop ?kTree_drop ?aTree___len__ ?iTree___len__ ?lTree___len__ ?cTree___len__ ?kTree___len__ ?aTree___iter__ ?iTree___iter__ ?lTree___iter__ ?cTree___iter__ ?kTree___iter__ ?aInvalidNumber___init__ ?iInvalidNumber___init__ ?lInvalidNumber___init__ ?cInvalidNumber___init__ ?kInvalidNumber___init__ ?aNoRoom___init__ ?iNoRoom___init__ ?lNoRoom___init__ ?cNoRoom___init__ ?kNoRoom___init__ ?aNotHeld___init__ ?iNotHeld___init__ ?lNotHeld___init__ ?cNotHeld___init__ ?kNotHeld___init__ ?aNotAlone___init__ ?iNotAlone___init__ ?lNotAlone___init__ ?cNotAlone___init__ ?kNotAlone___init__ ?ais_between ?lis_between ?cis_between ?kis_between ?aStore___init__ ?iStore___init__ ?lStore___init__ ?cStore___init__ ?kStore___init__ ?aStore_free ?iStore_free ?tStore_free ?rStore_free ?lStore_free ?cStore_free ?kStore_free ?aStore_check_held ?iStore_check_held ?lStore_check_held ?cStore_check_held ?kStore_check_held ?aStore_check_alone ?iStore_check_alone ?lStore_check_alone ?cStore_check_alone ?kStore_check_alone ?aStore_take ?iStore_take ?lStore_take ?cStore_take ?kStore_take ?aStore_hold ?iStore_hold ?lStore_hold ?cStore_hold ?kStore_hold ?aStore_release ?iStore_release ?lStore_release ?cStore_release ?kStore_release ?aStore_put_row ?iStore_put_row ?lStore_put_row ?cStore_put_row ?kStore_put_row ?aStore_holders ?iStore_holders ?lStore_holders ?cStore_holders ?kStore_holders ?aL_pool ?lL_pool ?cL_pool ?kL_pool ?aL_draw ?lL_draw ?cL_draw ?kL_draw ?aL_same ?lL_same ?cL_same ?kL_same ?aL_new ?lL_new ?cL_new ?kL_new ?aL_path ?lL_path ?cL_path ?kL_path ?aL_letters ?lL_letters ?cL_letters ?kL_letters ?aL_row ?lL_row ?cL_row ?kL_row ?aL_uses ?lL_uses ?cL_uses ?kL_uses ?aL_known ?lL_known ?cL_known ?kL_known ?aL_release ?lL_release ?cL_release ?kL_release ?aL_dropped ?lL_dropped ?cL_dropped ?kL_dropped ?aL_as ?lL_as ?cL_as ?kL_as ?aL_filled ?lL_filled ?cL_filled ?kL_filled ?aL_shown ?lL_shown ?cL_shown ?kL_shown ?aL_put ?lL_put ?cL_put ?kL_put ?alaw ?llaw ?claw ?klaw ?xlInvalidNumber ?xaInvalidNumber ?xkInvalidNumber ?xtInvalidNumber ?xnInvalidNumber ?xgInvalidNumber ?xhInvalidNumber ?xcInvalidNumber ?xsInvalidNumber ?xuInvalidNumber ?xmInvalidNumber ?xvInvalidNumber ?suInvalidNumber_InvalidNumber ?suInvalidNumber_NoRoom ?suInvalidNumber_NotAlone ?suInvalidNumber_NotHeld ?xlNoRoom ?xaNoRoom ?xkNoRoom ?xtNoRoom ?xnNoRoom ?xgNoRoom ?xhNoRoom ?xcNoRoom ?xsNoRoom ?xuNoRoom ?xmNoRoom ?xvNoRoom ?suNoRoom_InvalidNumber ?suNoRoom_NoRoom ?suNoRoom_NotAlone ?suNoRoom_NotHeld ?xlNotAlone ?xaNotAlone ?xkNotAlone ?xtNotAlone ?xnNotAlone ?xgNotAlone ?xhNotAlone ?xcNotAlone ?xsNotAlone ?xuNotAlone ?xmNotAlone ?xvNotAlone ?suNotAlone_InvalidNumber ?suNotAlone_NoRoom ?suNotAlone_NotAlone ?suNotAlone_NotHeld ?xlNotHeld ?xaNotHeld ?xkNotHeld ?xtNotHeld ?xnNotHeld ?xgNotHeld ?xhNotHeld ?xcNotHeld ?xsNotHeld ?xuNotHeld ?xmNotHeld ?xvNotHeld ?suNotHeld_InvalidNumber ?suNotHeld_NoRoom ?suNotHeld_NotAlone ?suNotHeld_NotHeld ?zabs ?zbool ?zint ?zisinstance ?ziter ?zlen ?zlist ?zmin ?zrange ?zsorted ?zstr ?zsum ?ztuple
    (case aCTree => k_is)
    (case pgTree => k_is)
    (case hdTree => k_is)
    (case poTree => k_is)
    (case saTree => k_is)
    (case mkTree => k_is)
    (case kcTree => k_is)
    (case nTree_store => k_is)
    (case nTree_paths => k_is)
    (case nTree_under => k_is)
    (case nTree_used => k_is)
    (case nTree_clock => k_is)
    (case aCStore => k_is)
    (case pgStore => k_is)
    (case hdStore => k_is)
    (case poStore => k_is)
    (case saStore => k_is)
    (case mkStore => k_is)
    (case kcStore => k_is)
    (case nStore_many => k_is)
    (case nStore_size => k_is)
    (case nStore_counts => k_is)
    (case nStore_kept => k_is)
    (case aCInvalidNumber => k_is)
    (case eiInvalidNumber => k_is)
    (case etInvalidNumber => k_is)
    (case ebInvalidNumber => k_is)
    (case ehInvalidNumber => k_is)
    (case aCNoRoom => k_is)
    (case eiNoRoom => k_is)
    (case etNoRoom => k_is)
    (case ebNoRoom => k_is)
    (case ehNoRoom => k_is)
    (case aCNotAlone => k_is)
    (case eiNotAlone => k_is)
    (case etNotAlone => k_is)
    (case ebNotAlone => k_is)
    (case ehNotAlone => k_is)
    (case aCNotHeld => k_is)
    (case eiNotHeld => k_is)
    (case etNotHeld => k_is)
    (case ebNotHeld => k_is)
    (case ehNotHeld => k_is)
    (case aKMOST_BLOCKS => k_is)
    (case aKMOST_ROWS => k_is)
    (case au_wall => k_is)
    (case lu_wall => k_is)
    (case cu_wall => k_is)
    (case ku_wall => k_is)
    (case aTree___init__ => k_is)
    (case iTree___init__ => k_is)
    (case lTree___init__ => k_is)
    (case cTree___init__ => k_is)
    (case kTree___init__ => k_is)
    (case aTree_beginnings => k_is)
    (case iTree_beginnings => k_is)
    (case lTree_beginnings => k_is)
    (case cTree_beginnings => k_is)
    (case kTree_beginnings => k_is)
    (case aTree_use => k_is)
    (case iTree_use => k_is)
    (case lTree_use => k_is)
    (case cTree_use => k_is)
    (case kTree_use => k_is)
    (case aTree_known => k_is)
    (case iTree_known => k_is)
    (case lTree_known => k_is)
    (case cTree_known => k_is)
    (case kTree_known => k_is)
    (case aTree_put => k_is)
    (case iTree_put => k_is)
    (case lTree_put => k_is)
    (case cTree_put => k_is)
    (case kTree_put => k_is)
    (case aTree_ends_of => k_is)
    (case iTree_ends_of => k_is)
    (case lTree_ends_of => k_is)
    (case cTree_ends_of => k_is)
    (case kTree_ends_of => k_is)
    (case aTree_oldest_of => k_is)
    (case iTree_oldest_of => k_is)
    (case lTree_oldest_of => k_is)
    (case cTree_oldest_of => k_is)
    (case kTree_oldest_of => k_is)
    (case aTree_drop => k_is)
    (case iTree_drop => k_is)
    (case lTree_drop => k_is)
    (case cTree_drop => k_is)
    (case kTree_drop => k_is)
    (case aTree___len__ => k_is)
    (case iTree___len__ => k_is)
    (case lTree___len__ => k_is)
    (case cTree___len__ => k_is)
    (case kTree___len__ => k_is)
    (case aTree___iter__ => k_is)
    (case iTree___iter__ => k_is)
    (case lTree___iter__ => k_is)
    (case cTree___iter__ => k_is)
    (case kTree___iter__ => k_is)
    (case aInvalidNumber___init__ => k_is)
    (case iInvalidNumber___init__ => k_is)
    (case lInvalidNumber___init__ => k_is)
    (case cInvalidNumber___init__ => k_is)
    (case kInvalidNumber___init__ => k_is)
    (case aNoRoom___init__ => k_is)
    (case iNoRoom___init__ => k_is)
    (case lNoRoom___init__ => k_is)
    (case cNoRoom___init__ => k_is)
    (case kNoRoom___init__ => k_is)
    (case aNotHeld___init__ => k_is)
    (case iNotHeld___init__ => k_is)
    (case lNotHeld___init__ => k_is)
    (case cNotHeld___init__ => k_is)
    (case kNotHeld___init__ => k_is)
    (case aNotAlone___init__ => k_is)
    (case iNotAlone___init__ => k_is)
    (case lNotAlone___init__ => k_is)
    (case cNotAlone___init__ => k_is)
    (case kNotAlone___init__ => k_is)
    (case ais_between => k_is)
    (case lis_between => k_is)
    (case cis_between => k_is)
    (case kis_between => k_is)
    (case aStore___init__ => k_is)
    (case iStore___init__ => k_is)
    (case lStore___init__ => k_is)
    (case cStore___init__ => k_is)
    (case kStore___init__ => k_is)
    (case aStore_free => k_is)
    (case iStore_free => k_is)
    (case tStore_free => k_is)
    (case rStore_free => exact ⟨_, by k_is⟩)
    (case lStore_free => k_is)
    (case cStore_free => k_is)
    (case kStore_free => k_is)
    (case aStore_check_held => k_is)
    (case iStore_check_held => k_is)
    (case lStore_check_held => k_is)
    (case cStore_check_held => k_is)
    (case kStore_check_held => k_is)
    (case aStore_check_alone => k_is)
    (case iStore_check_alone => k_is)
    (case lStore_check_alone => k_is)
    (case cStore_check_alone => k_is)
    (case kStore_check_alone => k_is)
    (case aStore_take => k_is)
    (case iStore_take => k_is)
    (case lStore_take => k_is)
    (case cStore_take => k_is)
    (case kStore_take => k_is)
    (case aStore_hold => k_is)
    (case iStore_hold => k_is)
    (case lStore_hold => k_is)
    (case cStore_hold => k_is)
    (case kStore_hold => k_is)
    (case aStore_release => k_is)
    (case iStore_release => k_is)
    (case lStore_release => k_is)
    (case cStore_release => k_is)
    (case kStore_release => k_is)
    (case aStore_put_row => k_is)
    (case iStore_put_row => k_is)
    (case lStore_put_row => k_is)
    (case cStore_put_row => k_is)
    (case kStore_put_row => k_is)
    (case aStore_holders => k_is)
    (case iStore_holders => k_is)
    (case lStore_holders => k_is)
    (case cStore_holders => k_is)
    (case kStore_holders => k_is)
    (case aL_pool => k_is)
    (case lL_pool => k_is)
    (case cL_pool => k_is)
    (case kL_pool => k_is)
    (case aL_draw => k_is)
    (case lL_draw => k_is)
    (case cL_draw => k_is)
    (case kL_draw => k_is)
    (case aL_same => k_is)
    (case lL_same => k_is)
    (case cL_same => k_is)
    (case kL_same => k_is)
    (case aL_new => k_is)
    (case lL_new => k_is)
    (case cL_new => k_is)
    (case kL_new => k_is)
    (case aL_path => k_is)
    (case lL_path => k_is)
    (case cL_path => k_is)
    (case kL_path => k_is)
    (case aL_letters => k_is)
    (case lL_letters => k_is)
    (case cL_letters => k_is)
    (case kL_letters => k_is)
    (case aL_row => k_is)
    (case lL_row => k_is)
    (case cL_row => k_is)
    (case kL_row => k_is)
    (case aL_uses => k_is)
    (case lL_uses => k_is)
    (case cL_uses => k_is)
    (case kL_uses => k_is)
    (case aL_known => k_is)
    (case lL_known => k_is)
    (case cL_known => k_is)
    (case kL_known => k_is)
    (case aL_release => k_is)
    (case lL_release => k_is)
    (case cL_release => k_is)
    (case kL_release => k_is)
    (case aL_dropped => k_is)
    (case lL_dropped => k_is)
    (case cL_dropped => k_is)
    (case kL_dropped => k_is)
    (case aL_as => k_is)
    (case lL_as => k_is)
    (case cL_as => k_is)
    (case kL_as => k_is)
    (case aL_filled => k_is)
    (case lL_filled => k_is)
    (case cL_filled => k_is)
    (case kL_filled => k_is)
    (case aL_shown => k_is)
    (case lL_shown => k_is)
    (case cL_shown => k_is)
    (case kL_shown => k_is)
    (case aL_put => k_is)
    (case lL_put => k_is)
    (case cL_put => k_is)
    (case kL_put => k_is)
    (case alaw => k_is)
    (case llaw => k_is)
    (case claw => k_is)
    (case klaw => k_is)
    (case xlInvalidNumber => k_is)
    (case xaInvalidNumber => k_is)
    (case xkInvalidNumber => k_is)
    (case xtInvalidNumber => k_is)
    (case xnInvalidNumber => k_is)
    (case xgInvalidNumber => k_is)
    (case xhInvalidNumber => k_is)
    (case xcInvalidNumber => k_is)
    (case xsInvalidNumber => k_is)
    (case xuInvalidNumber => k_is)
    (case xmInvalidNumber => k_is)
    (case xvInvalidNumber => k_is)
    (case suInvalidNumber_InvalidNumber => k_is)
    (case suInvalidNumber_NoRoom => k_is)
    (case suInvalidNumber_NotAlone => k_is)
    (case suInvalidNumber_NotHeld => k_is)
    (case xlNoRoom => k_is)
    (case xaNoRoom => k_is)
    (case xkNoRoom => k_is)
    (case xtNoRoom => k_is)
    (case xnNoRoom => k_is)
    (case xgNoRoom => k_is)
    (case xhNoRoom => k_is)
    (case xcNoRoom => k_is)
    (case xsNoRoom => k_is)
    (case xuNoRoom => k_is)
    (case xmNoRoom => k_is)
    (case xvNoRoom => k_is)
    (case suNoRoom_InvalidNumber => k_is)
    (case suNoRoom_NoRoom => k_is)
    (case suNoRoom_NotAlone => k_is)
    (case suNoRoom_NotHeld => k_is)
    (case xlNotAlone => k_is)
    (case xaNotAlone => k_is)
    (case xkNotAlone => k_is)
    (case xtNotAlone => k_is)
    (case xnNotAlone => k_is)
    (case xgNotAlone => k_is)
    (case xhNotAlone => k_is)
    (case xcNotAlone => k_is)
    (case xsNotAlone => k_is)
    (case xuNotAlone => k_is)
    (case xmNotAlone => k_is)
    (case xvNotAlone => k_is)
    (case suNotAlone_InvalidNumber => k_is)
    (case suNotAlone_NoRoom => k_is)
    (case suNotAlone_NotAlone => k_is)
    (case suNotAlone_NotHeld => k_is)
    (case xlNotHeld => k_is)
    (case xaNotHeld => k_is)
    (case xkNotHeld => k_is)
    (case xtNotHeld => k_is)
    (case xnNotHeld => k_is)
    (case xgNotHeld => k_is)
    (case xhNotHeld => k_is)
    (case xcNotHeld => k_is)
    (case xsNotHeld => k_is)
    (case xuNotHeld => k_is)
    (case xmNotHeld => k_is)
    (case xvNotHeld => k_is)
    (case suNotHeld_InvalidNumber => k_is)
    (case suNotHeld_NoRoom => k_is)
    (case suNotHeld_NotAlone => k_is)
    (case suNotHeld_NotHeld => k_is)
    (case zabs => k_is)
    (case zbool => k_is)
    (case zint => k_is)
    (case zisinstance => k_is)
    (case ziter => k_is)
    (case zlen => k_is)
    (case zlist => k_is)
    (case zmin => k_is)
    (case zrange => k_is)
    (case zsorted => k_is)
    (case zstr => k_is)
    (case zsum => k_is)
    (case ztuple => k_is)
#print axioms PySem.Challenge.cw_servedalone_k22_used_longest_ago_holds
